import PyProof.Rows.All
import Wide.All
import OpenK.AllK
import Wide.FinOn
import HandS.ForMost
import HandS.Exc
import HandS.ExcOwn
import HandS.TryOnly
import HandS.TryMany
import HandS.Flow
import HandS.IsInst
import HandS.Zip
import HandS.TupAny
import HandS.SortInts
import HandS.Deep
import HandS.DictComp
import HandS.Wide
import HandS.SetFor
import HandS.Conv
import HandS.RaiseMore
import HandS.TupLe
import HandS.TupMul
import HandS.Style
import HandS.Small
import KE.GoesMore
import HandS.Dict
import HandS.More
import KE.KTupSum
import KE.DataMinMax
import KE.SortData
import HandS.ExcIs
import HandS.Lambda
import HandS.EndTab
import HandS.CallLocal
import PyProof.ListStr
import PyProof.DictUpdate
import PyProof.SeqIndex
import PyProof.StrBlock2
import PySem.Challenge.RW_cardtable_k08_whole_holders_and_swapped
set_option Elab.async false
set_option linter.all false
set_option maxRecDepth 100000
set_option maxHeartbeats 4000000
/-! DL1: the data layer: values as plain data D, what represents them, the frame's cells, lifting of data-level readings to the kit's readings -/
namespace DL
open PySem PySem.Spec PyProof.Rows L2

/-- plain data -/
inductive D where
  | non | bl (b : Bool) | int (i : Int) | str (x : Str) | tup (ds : List D) | lst (ds : List D) | dct (ks : List Key) (ds : List D) | raw (v : V) | fn (x : Str)

/-- a tuple: tracked, or an object of the module -/
def TupAt (K : PySem.W.Frag) (S : Hp) (a : Addr) (xs : List V) : Prop :=
  S a = some (.tup xs) ∨ ∃ (o : Obj) (its : Array Value) (n : Nat), K.lookup a = some o ∧ o.cls = .type "tuple" ∧ o.data = .seq its n ∧ its.size ≤ sizeLine ∧ Vals xs its.toList
theorem TupAt.sq {K : PySem.W.Frag} {S : Hp} {a : Addr} {xs : List V} (h : TupAt K S a xs) : SqT K S a xs := h.elim (fun e => .inl (.inl e)) .inr
theorem TupAt.up {K : PySem.W.Frag} {S S' : Hp} {a : Addr} {xs : List V} (e : Same S S') (h : TupAt K S a xs) : TupAt K S' a xs := h.elim (fun q => .inl (e _ _ q)) .inr
mutual
/-- the value v stands for d, by the visible heap S -/
inductive Rep (K : PySem.W.Frag) (S : Hp) : V → D → Prop where
  | non : Rep K S .non .non
  | bl (b : Bool) : Rep K S (.bl b) (.bl b)
  | int (i : Int) : Rep K S (.int i) (.int i)
  | str (x : Str) : Rep K S (.str x) (.str x)
  | raw (v : V) : Rep K S v (.raw v)
  | fn {a : Addr} {x : Str} : PySem.W.nsIn K mainGlobals x = some (some (.ref a)) → Rep K S (.ref a) (.fn x)
  | lst {a : Addr} {xs : List V} {ds : List D} : S a = some (.lst xs) → Reps K S xs ds → Rep K S (.ref a) (.lst ds)
  | tup {a : Addr} {xs : List V} {ds : List D} : TupAt K S a xs → Reps K S xs ds → Rep K S (.ref a) (.tup ds)
  | dct {a : Addr} {kvs : List (Key × V)} {ks : List Key} {ds : List D} : S a = some (.dK kvs) → kvs.map (·.1) = ks → Reps K S (kvs.map (·.2)) ds → Rep K S (.ref a) (.dct ks ds)
inductive Reps (K : PySem.W.Frag) (S : Hp) : List V → List D → Prop where
  | nil : Reps K S [] []
  | cons {v : V} {vs : List V} {d : D} {ds : List D} : Rep K S v d → Reps K S vs ds → Reps K S (v :: vs) (d :: ds)
end

mutual
theorem Rep.mono {K : PySem.W.Frag} {S S' : Hp} (e : Same S S') : ∀ (d : D) (v : V), Rep K S v d → Rep K S' v d
  | .non, _, h => by cases h; exact .non
  | .bl b, _, h => by cases h; exact .bl b
  | .int i, _, h => by cases h; exact .int i
  | .str x, _, h => by cases h; exact .str x
  | .raw v, _, h => by cases h; exact .raw v
  | .fn x, _, h => by
    cases h with
    | fn e => exact .fn e
  | .tup ds, _, h => by
    cases h with
    | tup h1 h2 => exact .tup (TupAt.up e h1) (Reps.mono e ds _ h2)
  | .lst ds, _, h => by
    cases h with
    | lst h1 h2 => exact .lst (e _ _ h1) (Reps.mono e ds _ h2)
  | .dct ks ds, _, h => by
    cases h with
    | dct h1 h2 h3 => exact .dct (e _ _ h1) h2 (Reps.mono e ds _ h3)
theorem Reps.mono {K : PySem.W.Frag} {S S' : Hp} (e : Same S S') : ∀ (ds : List D) (vs : List V), Reps K S vs ds → Reps K S' vs ds
  | [], _, h => by cases h; exact .nil
  | d :: ds, _, h => by
    cases h with
    | cons h1 h2 => exact .cons (Rep.mono e d _ h1) (Reps.mono e ds _ h2)
end
theorem Rep.up {K : PySem.W.Frag} {S S' : Hp} {v : V} {d : D} (h : Rep K S v d) (e : Same S S') : Rep K S' v d := Rep.mono e d v h
theorem Reps.up {K : PySem.W.Frag} {S S' : Hp} {v : List V} {d : List D} (h : Reps K S v d) (e : Same S S') : Reps K S' v d := Reps.mono e d v h

section
variable {K : PySem.W.Frag} {S : Hp}
theorem Reps.length : ∀ {xs : List V} {ds : List D}, Reps K S xs ds → xs.length = ds.length
  | [], [], _ => rfl
  | _ :: _, _ :: _, .cons _ t => by simp [Reps.length t]
theorem Reps.get : ∀ {xs : List V} {ds : List D} {i : Nat} {x : V}, Reps K S xs ds → xs[i]? = some x → ∃ d, ds[i]? = some d ∧ Rep K S x d
  | _ :: _, _ :: _, 0, x, .cons r _, e => by simp at e; subst e; exact ⟨_, rfl, r⟩
  | _ :: _, _ :: _, i + 1, x, .cons _ t, e => by
    obtain ⟨d, h1, h2⟩ := Reps.get (i := i) (x := x) t (by simpa using e)
    exact ⟨d, by simpa using h1, h2⟩
theorem Reps.get' : ∀ {xs : List V} {ds : List D} {i : Nat} {d : D}, Reps K S xs ds → ds[i]? = some d → ∃ x, xs[i]? = some x ∧ Rep K S x d
  | [], _, _, _, h, e => by cases h; simp at e
  | _ :: _, _ :: _, 0, x, .cons r _, e => by simp at e; subst e; exact ⟨_, rfl, r⟩
  | _ :: _, _ :: _, i + 1, x, .cons _ t, e => by
    obtain ⟨d, h1, h2⟩ := Reps.get' (i := i) (d := x) t (by simpa using e)
    exact ⟨d, by simpa using h1, h2⟩
theorem Reps.append : ∀ {xs : List V} {ds : List D} {ys : List V} {es : List D}, Reps K S xs ds → Reps K S ys es → Reps K S (xs ++ ys) (ds ++ es)
  | [], [], _, _, _, h => by simpa using h
  | _ :: _, _ :: _, _, _, .cons r t, h => .cons r (Reps.append t h)
theorem Reps.one {v : V} {d : D} (r : Rep K S v d) : Reps K S [v] [d] := .cons r .nil
theorem Reps.set {v : V} {d : D} (r : Rep K S v d) : ∀ {xs : List V} {ds : List D} (i : Nat), Reps K S xs ds → Reps K S (xs.set i v) (ds.set i d)
  | [], [], _, _ => .nil
  | _ :: _, _ :: _, 0, .cons _ t => .cons r t
  | _ :: _, _ :: _, i + 1, .cons q t => .cons q (Reps.set r i t)
theorem Reps.erase : ∀ {xs : List V} {ds : List D} (i : Nat), Reps K S xs ds → Reps K S (xs.eraseIdx i) (ds.eraseIdx i)
  | [], [], _, _ => .nil
  | _ :: _, _ :: _, 0, .cons _ t => t
  | _ :: _, _ :: _, i + 1, .cons q t => .cons q (Reps.erase i t)
theorem Reps.take : ∀ {xs : List V} {ds : List D} (n : Nat), Reps K S xs ds → Reps K S (xs.take n) (ds.take n)
  | _, _, 0, _ => .nil
  | [], [], _ + 1, _ => .nil
  | _ :: _, _ :: _, n + 1, .cons r t => .cons r (Reps.take n t)
theorem Reps.drop : ∀ {xs : List V} {ds : List D} (n : Nat), Reps K S xs ds → Reps K S (xs.drop n) (ds.drop n)
  | _, _, 0, r => by rw [List.drop_zero, List.drop_zero]; exact r
  | [], [], _ + 1, _ => .nil
  | _ :: _, _ :: _, n + 1, .cons _ t => Reps.drop n t
theorem Reps.reverse : ∀ {xs : List V} {ds : List D}, Reps K S xs ds → Reps K S xs.reverse ds.reverse
  | [], [], _ => .nil
  | _ :: _, _ :: _, .cons r t => by rw [List.reverse_cons, List.reverse_cons]; exact (Reps.reverse t).append (.one r)
theorem Reps.repl {xs : List V} {ds : List D} (h : Reps K S xs ds) : ∀ n : Nat, Reps K S (List.replicate n xs).flatten (List.replicate n ds).flatten
  | 0 => .nil
  | n + 1 => by rw [List.replicate_succ, List.replicate_succ, List.flatten_cons, List.flatten_cons]; exact h.append (Reps.repl h n)
theorem Reps.ints : ∀ {xs : List V} {ns : List Int}, Reps K S xs (ns.map D.int) → xs = ns.map V.int
  | [], [], _ => rfl
  | _ :: _, _ :: _, .cons r t => by cases r; rw [List.map_cons, Reps.ints t]
theorem Reps.of_ints : ∀ {ns : List Int}, Reps K S (ns.map V.int) (ns.map D.int)
  | [] => .nil
  | n :: _ => .cons (.int n) Reps.of_ints
theorem Reps.bls : ∀ {xs : List V} {ns : List Bool}, Reps K S xs (ns.map D.bl) → xs = ns.map V.bl
  | [], [], _ => rfl
  | _ :: _, _ :: _, .cons r t => by cases r; rw [List.map_cons, Reps.bls t]
theorem Reps.strs : ∀ {xs : List V} {ns : List Str}, Reps K S xs (ns.map D.str) → xs = ns.map V.str
  | [], [], _ => rfl
  | _ :: _, _ :: _, .cons r t => by cases r; rw [List.map_cons, Reps.strs t]
theorem Reps.of_strs : ∀ {ns : List Str}, Reps K S (ns.map V.str) (ns.map D.str)
  | [] => .nil
  | n :: _ => .cons (.str n) Reps.of_strs
end

/-! ### cells, ghosts -/
inductive Cell where
  | un | dat (d : D) | own (p : Addr) (ds : List D) | ownK (p : Addr) (kvs : List (Key × D)) | res
abbrev Rho := List Cell
/-- a thing that is changed in place by what it is handed to: where it is, what objects it is made of, what holds of it -/
structure Res where
  p : Addr
  fp : List Addr
  ok : Hp → Hp → Prop
  st : ∀ {S S' H H' : Hp}, Same S S' → (∀ a ∈ fp, H' a = H a) → ok S H → ok S' H'
  there : ∀ S H : Hp, ok S H → ∀ a ∈ fp, ∃ o, H a = some o
def noRes : Res := ⟨0, [], fun _ _ => True, fun _ _ h => h, fun _ _ _ a h => by cases h⟩
/-- the heap at the entry, what was visible then, the resource -/
structure G where
  He : Hp
  S0 : Hp
  r : Res

def CellOk (K : PySem.W.Frag) (g : G) (S H : Hp) (o : Option (Option V)) : Cell → Prop
  | .un => True
  | .dat d => ∃ v, o = some (some v) ∧ Rep K S v d
  | .own p ds => o = some (some (.ref p)) ∧ S p = none ∧ g.He p = none ∧ ∃ xs, H p = some (.lst xs) ∧ Reps K S xs ds
  | .ownK p ks => o = some (some (.ref p)) ∧ S p = none ∧ g.He p = none ∧ ∃ kvs, H p = some (.dK kvs) ∧ kvs.map (·.1) = ks.map (·.1) ∧ Reps K S (kvs.map (·.2)) (ks.map (·.2))
  | .res => o = some (some (.ref g.r.p))
def Cell.at? : Cell → Option Addr
  | .own p _ => some p
  | .ownK p _ => some p
  | _ => none
def ownAt (ρ : Rho) (i : Nat) : Option Addr := (ρ[i]?).bind Cell.at?

/-- no table of code objects -/
def NT (o : HO) : Prop := ∀ ps, o ≠ .tbl ps
def NTS (S : Hp) : Prop := ∀ a o, S a = some o → NT o
theorem NTS.upd {S : Hp} {p : Addr} {o : HO} (h : NTS S) (ho : NT o) : NTS (upd S p o) := fun a u e => by
  by_cases q : a = p
  · subst q; rw [upd_same] at e; cases e; exact ho
  · rw [upd_ne q] at e; exact h a u e
structure ER (K : PySem.W.Frag) (RK : Res → Prop) (g : G) (S H : Hp) (σ : L2.St) (ρ : Rho) : Prop where
  rk : RK g.r
  heok : g.r.ok g.S0 g.He
  sub : Same S H
  fr : ∀ a o, a ∉ g.r.fp → g.He a = some o → H a = some o
  vis : ∀ a o, S a = some o → g.S0 a = some o ∨ g.He a = none
  s0 : Same g.S0 S
  fpS : ∀ a ∈ g.r.fp, S a = none
  res : g.r.ok S H
  len : ρ.length = σ.length
  cell : ∀ (i : Nat) c, ρ[i]? = some c → CellOk K g S H σ[i]? c
  apart : ∀ (i j : Nat) p q, ownAt ρ i = some p → ownAt ρ j = some q → i ≠ j → p ≠ q
  nt : NTS S

section
variable {K : PySem.W.Frag} {RK : Res → Prop} {g : G} {S S' H H' : Hp} {σ : L2.St} {ρ : Rho}
theorem ER.fresh (R : ER K RK g S H σ ρ) {p : Addr} (hp : H p = none) : g.He p = none ∧ S p = none ∧ p ∉ g.r.fp ∧ ∀ i, ownAt ρ i ≠ some p := by
  have h1 : p ∉ g.r.fp := fun z => by
    obtain ⟨o, e⟩ := g.r.there _ H R.res p z
    rw [hp] at e; cases e
  refine ⟨?_, R.sub.free hp, h1, fun i e => ?_⟩
  · cases q : g.He p with
    | none => rfl
    | some o => have := R.fr p o h1 q; rw [hp] at this; cases this
  · unfold ownAt at e
    cases q : ρ[i]? with
    | none => rw [q] at e; cases e
    | some c =>
      rw [q] at e
      have z := R.cell i c q
      cases c with
      | own a ds =>
        have e' : a = p := Option.some.inj e
        subst e'
        obtain ⟨_, _, _, xs, e2, _⟩ := z
        rw [hp] at e2; cases e2
      | ownK a ds =>
        have e' : a = p := Option.some.inj e
        subst e'
        obtain ⟨_, _, _, xs, e2, _⟩ := z
        rw [hp] at e2; cases e2
      | un => cases e
      | dat d => cases e
      | res => cases e
theorem own_of {i : Nat} {c : Cell} {p : Addr} (e : ρ[i]? = some c) (h : c.at? = some p) : ownAt ρ i = some p := by
  unfold ownAt; rw [e]; exact h
theorem CellOk.move {o : Option (Option V)} {c : Cell} (z : CellOk K g S H o c) (e : Same S S') (hk : ∀ p, c.at? = some p → H' p = H p ∧ S' p = none) : CellOk K g S' H' o c := by
  cases c with
  | un => trivial
  | res => exact z
  | dat d => obtain ⟨v, h1, h2⟩ := z; exact ⟨v, h1, h2.up e⟩
  | own p ds =>
    obtain ⟨h1, h2, h3, xs, h4, h5⟩ := z
    obtain ⟨k1, k2⟩ := hk p rfl
    exact ⟨h1, k2, h3, xs, k1.trans h4, h5.up e⟩
  | ownK p ds =>
    obtain ⟨h1, h2, h3, xs, h4, h5, h6⟩ := z
    obtain ⟨k1, k2⟩ := hk p rfl
    exact ⟨h1, k2, h3, xs, k1.trans h4, h5, h6.up e⟩
/-- the general step: all own things kept -/
theorem ER.step (R : ER K RK g S H σ ρ) (e : Same S S') (sub : Same S' H') (fr : ∀ a o, a ∉ g.r.fp → g.He a = some o → H' a = some o) (vis : ∀ a o, S' a = some o → S a = some o ∨ g.He a = none) (fpS : ∀ a ∈ g.r.fp, S' a = none)
    (res : g.r.ok S' H') (hk : ∀ i p, ownAt ρ i = some p → H' p = H p ∧ S' p = none) (nt : NTS S') : ER K RK g S' H' σ ρ :=
  ⟨R.rk, R.heok, sub, fr, fun a o q => (vis a o q).elim (R.vis a o) .inr, R.s0.trans e, fpS, res, R.len, fun i c q => (R.cell i c q).move e fun p hp => hk i p (own_of q hp), R.apart, nt⟩
theorem same_upd {H : Hp} {p : Addr} {o : HO} (h : H p = none) : Same H (upd H p o) := fun b x e => by
  rw [upd_ne (ne_of_none e h)]; exact e
/-- a new object, visible -/
theorem ER.alloc (R : ER K RK g S H σ ρ) {p : Addr} {o : HO} (hp : H p = none) (hn : NT o := by intro ps z; cases z) : ER K RK g (upd S p o) (upd H p o) σ ρ ∧ Same S (upd S p o) := by
  obtain ⟨h1, h2, h3, h4⟩ := R.fresh hp
  have e : Same S (upd S p o) := same_upd h2
  refine ⟨R.step e (fun b u q => ?_) (fun a u ha q => ?_) (fun a u q => ?_) (fun a ha => ?_) (g.r.st e (fun a ha => ?_) R.res) (fun i q hq => ?_) (R.nt.upd hn), e⟩
  · by_cases hb : b = p
    · subst hb; rw [upd_same] at q ⊢; exact q
    · rw [upd_ne hb] at q ⊢; exact R.sub b u q
  · rw [upd_ne (ne_of_none (R.fr a u ha q) hp)]; exact R.fr a u ha q
  · by_cases hb : a = p
    · subst hb; exact .inr h1
    · rw [upd_ne hb] at q; exact .inl q
  · rw [upd_ne (show a ≠ p from fun z => h3 (z ▸ ha))]; exact R.fpS a ha
  · exact upd_ne (show a ≠ p from fun z => h3 (z ▸ ha))
  · have hne : q ≠ p := fun z => h4 i (z ▸ hq)
    refine ⟨upd_ne hne, ?_⟩
    rw [upd_ne hne]
    unfold ownAt at hq
    cases w : ρ[i]? with
    | none => rw [w] at hq; cases hq
    | some c =>
      rw [w] at hq
      have z := R.cell i c w
      cases c with
      | own a ds => have e' : a = q := Option.some.inj hq; subst e'; exact z.2.1
      | ownK a ds => have e' : a = q := Option.some.inj hq; subst e'; exact z.2.1
      | un => cases hq
      | dat d => cases hq
      | res => cases hq
theorem ER.ownS (R : ER K RK g S H σ ρ) {i : Nat} {q : Addr} (hq : ownAt ρ i = some q) : S q = none ∧ g.He q = none := by
  unfold ownAt at hq
  cases w : ρ[i]? with
  | none => rw [w] at hq; cases hq
  | some c =>
    rw [w] at hq
    have z := R.cell i c w
    cases c with
    | own a ds => have e' : a = q := Option.some.inj hq; subst e'; exact ⟨z.2.1, z.2.2.1⟩
    | ownK a ds => have e' : a = q := Option.some.inj hq; subst e'; exact ⟨z.2.1, z.2.2.1⟩
    | un => cases hq
    | dat d => cases hq
    | res => cases hq
/-- a new object that nothing visible speaks of -/
theorem ER.alloc0 (R : ER K RK g S H σ ρ) {p : Addr} {o : HO} (hp : H p = none) : ER K RK g S (upd H p o) σ ρ := by
  obtain ⟨h1, h2, h3, h4⟩ := R.fresh hp
  refine R.step (Same.refl S) (fun b u q => ?_) (fun a u ha q => ?_) (fun a u q => .inl q) R.fpS (g.r.st (Same.refl S) (fun a ha => upd_ne (show a ≠ p from fun z => h3 (z ▸ ha))) R.res) (fun i q hq => ⟨upd_ne (show q ≠ p from fun z => h4 i (z ▸ hq)), (R.ownS hq).1⟩) R.nt
  · rw [upd_ne (ne_of_none (R.sub b u q) hp)]; exact R.sub b u q
  · rw [upd_ne (ne_of_none (R.fr a u ha q) hp)]; exact R.fr a u ha q
/-- a name stored -/
theorem ER.setD (R : ER K RK g S H σ ρ) {i : Nat} {v : V} {d : D} (r : Rep K S v d) (hi : i < σ.length) : ER K RK g S H (σ.set i (some v)) (ρ.set i (.dat d)) := by
  refine ⟨R.rk, R.heok, R.sub, R.fr, R.vis, R.s0, R.fpS, R.res, by simp [R.len], fun j c q => ?_, fun j k p q hj hk hne => ?_, R.nt⟩
  · by_cases e : j = i
    · subst e
      have h : j < ρ.length := by rw [R.len]; exact hi
      rw [List.getElem?_set_self h] at q
      cases q
      exact ⟨v, List.getElem?_set_self hi, r⟩
    · rw [List.getElem?_set_ne (Ne.symm e)] at q ⊢
      exact R.cell j c q
  · have h : ∀ k p, ownAt (ρ.set i (.dat d)) k = some p → ownAt ρ k = some p := fun k p hk => by
      unfold ownAt at hk ⊢
      by_cases e : k = i
      · subst e
        by_cases hl : k < ρ.length
        · rw [List.getElem?_set_self hl] at hk; cases hk
        · rw [List.getElem?_eq_none (by simpa using hl)] at hk; cases hk
      · rw [List.getElem?_set_ne (Ne.symm e)] at hk; exact hk
    exact R.apart j k p q (h _ _ hj) (h _ _ hk) hne
/-- a cell forgotten -/
theorem ER.forget (R : ER K RK g S H σ ρ) (i : Nat) : ER K RK g S H σ (ρ.set i .un) := by
  refine ⟨R.rk, R.heok, R.sub, R.fr, R.vis, R.s0, R.fpS, R.res, by simp [R.len], fun j c q => ?_, fun j k p q hj hk hne => ?_, R.nt⟩
  · by_cases e : j = i
    · subst e
      by_cases h : j < ρ.length
      · rw [List.getElem?_set_self h] at q; cases q; trivial
      · rw [List.getElem?_eq_none (by simpa using h)] at q; cases q
    · rw [List.getElem?_set_ne (Ne.symm e)] at q; exact R.cell j c q
  · have h : ∀ k p, ownAt (ρ.set i .un) k = some p → ownAt ρ k = some p := fun k p hk => by
      unfold ownAt at hk ⊢
      by_cases e : k = i
      · subst e
        by_cases hl : k < ρ.length
        · rw [List.getElem?_set_self hl] at hk; cases hk
        · rw [List.getElem?_eq_none (by simpa using hl)] at hk; cases hk
      · rw [List.getElem?_set_ne (Ne.symm e)] at hk; exact hk
    exact R.apart j k p q (h _ _ hj) (h _ _ hk) hne
theorem ER.lt (R : ER K RK g S H σ ρ) {i : Nat} {c : Cell} (h : ρ[i]? = some c) : i < σ.length := by
  rw [← R.len]; exact (List.getElem?_eq_some_iff.mp h).1
theorem ownAt_set_ne {c : Cell} {i j : Nat} (e : j ≠ i) : ownAt (ρ.set i c) j = ownAt ρ j := by
  unfold ownAt; rw [List.getElem?_set_ne (Ne.symm e)]
theorem ownAt_set {c : Cell} {i : Nat} (h : i < ρ.length) : ownAt (ρ.set i c) i = c.at? := by
  unfold ownAt; rw [List.getElem?_set_self h]; rfl
/-- an own thing of a name changed in place, or a name bound to an own thing that no other name has -/
theorem ER.setOwn {H' : Hp} {σ' : L2.St} {i : Nat} {c : Cell} {p : Addr} (R : ER K RK g S H σ ρ) (hi : i < σ.length) (hc : c.at? = some p) (hS : S p = none) (hHe : g.He p = none) (hap : ∀ j, j ≠ i → ownAt ρ j ≠ some p)
    (hsub : Same S H') (hH : ∀ b, b ≠ p → H' b = H b ∨ (H b = none)) (hl : σ'.length = σ.length) (hσ : ∀ j, j ≠ i → σ'[j]? = σ[j]?) (z : CellOk K g S H' σ'[i]? c) :
    ER K RK g S H' σ' (ρ.set i c) := by
  have hpf : p ∉ g.r.fp := fun q => by
    obtain ⟨o, e⟩ := g.r.there _ _ R.heok p q
    rw [hHe] at e; cases e
  have keep : ∀ b o, b ≠ p → H b = some o → H' b = some o := fun b o hb e => (hH b hb).elim (fun q => q.trans e) fun q => by rw [q] at e; cases e
  have hi' : i < ρ.length := by rw [R.len]; exact hi
  refine ⟨R.rk, R.heok, hsub, fun a o ha q => keep a o (fun e => by rw [e, hHe] at q; cases q) (R.fr a o ha q), R.vis, R.s0, R.fpS, g.r.st (Same.refl S) (fun a ha => ?_) R.res, by simp [R.len, hl], fun j d q => ?_, fun j k a b hj hk hne => ?_, R.nt⟩
  · obtain ⟨o, e⟩ := g.r.there _ H R.res a ha
    rw [keep a o (fun q => hpf (q ▸ ha)) e, e]
  · by_cases e : j = i
    · subst e
      rw [List.getElem?_set_self hi'] at q; cases q
      exact z
    · rw [List.getElem?_set_ne (Ne.symm e)] at q
      rw [hσ j e]
      refine (R.cell j d q).move (Same.refl S) fun b hb => ?_
      have o1 := own_of q hb
      have hbp : b ≠ p := fun w => hap j e (w ▸ o1)
      refine ⟨?_, (R.ownS o1).1⟩
      rcases hH b hbp with w | w
      · exact w
      · exact absurd o1 ((R.fresh w).2.2.2 j)
  · by_cases e1 : j = i
    · subst e1
      rw [ownAt_set hi', hc] at hj
      cases hj
      have e2 : k ≠ j := Ne.symm hne
      rw [ownAt_set_ne e2] at hk
      exact fun w => hap k e2 (w ▸ hk)
    · rw [ownAt_set_ne e1] at hj
      by_cases e2 : k = i
      · subst e2
        rw [ownAt_set hi', hc] at hk
        cases hk
        exact fun w => hap j e1 (w ▸ hj)
      · rw [ownAt_set_ne e2] at hk
        exact R.apart j k a b hj hk hne
/-- an own list is seen from now on, and no longer changed -/
theorem ER.freeze (R : ER K RK g S H σ ρ) {i : Nat} {p : Addr} {ds : List D} (h : ρ[i]? = some (.own p ds)) :
    ∃ S', ER K RK g S' H σ (ρ.set i (.dat (.lst ds))) ∧ Same S S' ∧ σ[i]? = some (some (.ref p)) ∧ Rep K S' (.ref p) (.lst ds) := by
  obtain ⟨h1, h2, h3, xs, h4, h5⟩ := R.cell i _ h
  have e : Same S (upd S p (.lst xs)) := same_upd h2
  have rp : Rep K (upd S p (.lst xs)) (.ref p) (.lst ds) := .lst upd_same (h5.up e)
  have hpf : p ∉ g.r.fp := fun q => by
    obtain ⟨o, e⟩ := g.r.there _ _ R.heok p q
    rw [h3] at e; cases e
  have R0 := R.forget i
  have hlt : i < ρ.length := (List.getElem?_eq_some_iff.mp h).1
  have hap : ∀ j, ownAt (ρ.set i .un) j ≠ some p := fun j q => by
    by_cases ej : j = i
    · subst ej; rw [ownAt_set hlt] at q; cases q
    · rw [ownAt_set_ne ej] at q
      exact R.apart j i p p q (own_of h rfl) ej rfl
  have R1 : ER K RK g (upd S p (.lst xs)) H σ (ρ.set i .un) := R0.step e (fun b u q => by
      by_cases hb : b = p
      · subst hb; rw [upd_same] at q; cases q; exact h4
      · rw [upd_ne hb] at q; exact R.sub b u q) R.fr (fun a o q => by
      by_cases hb : a = p
      · subst hb; exact .inr h3
      · rw [upd_ne hb] at q; exact .inl q) (fun a ha => by rw [upd_ne (show a ≠ p from fun z => hpf (z ▸ ha))]; exact R.fpS a ha) (g.r.st e (fun _ _ => rfl) R.res) (fun j q hq => ⟨rfl, by
      rw [upd_ne (show q ≠ p from fun z => hap j (z ▸ hq))]; exact (R0.ownS hq).1⟩) (R0.nt.upd (by intro ps z; cases z))
  have hi : i < σ.length := by rw [← R.len]; exact hlt
  have R2 := R1.setD (i := i) rp hi
  have eσ : σ.set i (some (.ref p)) = σ := by
    apply List.ext_getElem? 
    intro j
    by_cases ej : j = i
    · subst ej; rw [List.getElem?_set_self hi, h1]
    · rw [List.getElem?_set_ne (Ne.symm ej)]
  rw [eσ, List.set_set] at R2
  exact ⟨_, R2, e, h1, rp⟩
theorem ER.freezeK (R : ER K RK g S H σ ρ) {i : Nat} {p : Addr} {ks : List (Key × D)} (h : ρ[i]? = some (.ownK p ks)) :
    ∃ S', ER K RK g S' H σ (ρ.set i (.dat (.dct (ks.map (·.1)) (ks.map (·.2))))) ∧ Same S S' ∧ σ[i]? = some (some (.ref p)) ∧ Rep K S' (.ref p) (.dct (ks.map (·.1)) (ks.map (·.2))) := by
  obtain ⟨h1, h2, h3, xs, h4, h5, h6⟩ := R.cell i _ h
  have e : Same S (upd S p (.dK xs)) := same_upd h2
  have rp : Rep K (upd S p (.dK xs)) (.ref p) (.dct (ks.map (·.1)) (ks.map (·.2))) := .dct upd_same h5 (h6.up e)
  have hpf : p ∉ g.r.fp := fun q => by
    obtain ⟨o, e⟩ := g.r.there _ _ R.heok p q
    rw [h3] at e; cases e
  have R0 := R.forget i
  have hlt : i < ρ.length := (List.getElem?_eq_some_iff.mp h).1
  have hap : ∀ j, ownAt (ρ.set i .un) j ≠ some p := fun j q => by
    by_cases ej : j = i
    · subst ej; rw [ownAt_set hlt] at q; cases q
    · rw [ownAt_set_ne ej] at q
      exact R.apart j i p p q (own_of h rfl) ej rfl
  have R1 : ER K RK g (upd S p (.dK xs)) H σ (ρ.set i .un) := R0.step e (fun b u q => by
      by_cases hb : b = p
      · subst hb; rw [upd_same] at q; cases q; exact h4
      · rw [upd_ne hb] at q; exact R.sub b u q) R.fr (fun a o q => by
      by_cases hb : a = p
      · subst hb; exact .inr h3
      · rw [upd_ne hb] at q; exact .inl q) (fun a ha => by rw [upd_ne (show a ≠ p from fun z => hpf (z ▸ ha))]; exact R.fpS a ha) (g.r.st e (fun _ _ => rfl) R.res) (fun j q hq => ⟨rfl, by
      rw [upd_ne (show q ≠ p from fun z => hap j (z ▸ hq))]; exact (R0.ownS hq).1⟩) (R0.nt.upd (by intro ps z; cases z))
  have hi : i < σ.length := by rw [← R.len]; exact hlt
  have R2 := R1.setD (i := i) rp hi
  have eσ : σ.set i (some (.ref p)) = σ := by
    apply List.ext_getElem? 
    intro j
    by_cases ej : j = i
    · subst ej; rw [List.getElem?_set_self hi, h1]
    · rw [List.getElem?_set_ne (Ne.symm ej)]
  rw [eσ, List.set_set] at R2
  exact ⟨_, R2, e, h1, rp⟩
end
end DL
/-! DL2: lifting; calls; defs -/
namespace DL
open PySem PySem.Spec PyProof.Rows L2

/-- an error: its class, its fields -/
abbrev Exn := Str × List (Str × D)
def ExR (K : PySem.W.Frag) (S H : Hp) (cls : Value) (dd : Option Addr) (x : Exn) : Prop :=
  PySem.W.nsIn K mainGlobals x.1 = some (some cls) ∧ ((dd = none ∧ x.2 = []) ∨ x.2 ≠ [] ∧ ∃ a fs, dd = some a ∧ H a = some (.xd fs) ∧ fs.map (·.1) = x.2.map (·.1) ∧ Reps K S (fs.map (·.2)) (x.2.map (·.2)))
abbrev EK := Exn → Rho → Prop
abbrev DT := EK → Rho → (D → Rho → Prop) → Prop
abbrev DB := EK → Rho → (Bool → Rho → Prop) → Prop
abbrev DA := EK → Rho → (List D → Rho → Prop) → Prop
structure DEnds where
  nx : Rho → Prop
  rt : D → Rho → Prop
  bk : Rho → Prop := fun _ => False
  ct : Rho → Prop := fun _ => False
abbrev DS := EK → DEnds → Rho → Prop
abbrev W0 : WX := fun _ _ _ _ => False

section
variable (K : PySem.W.Frag) (RK : Res → Prop) (W : WX)
/-- what may be raised from a state of sight S on -/
def ExC (g : G) (S : Hp) (E : EK) : Prop := ∀ cls dd σ' H' S' ρ' x, ER K RK g S' H' σ' ρ' → Same S S' → ExR K S' H' cls dd x → E x ρ' → W cls dd σ' H'
def liftE (d : DT) : TE := fun σ H Qh => ∃ g S ρ Q E, ER K RK g S H σ ρ ∧ d E ρ Q ∧ (∀ v H' S' ρ' x, ER K RK g S' H' σ ρ' → Same S S' → Rep K S' v x → Q x ρ' → Qh v H') ∧ ExC K RK W g S E
def liftB (d : DB) : TT := fun σ H Qh => ∃ g S ρ Q E, ER K RK g S H σ ρ ∧ d E ρ Q ∧ (∀ b H' S' ρ', ER K RK g S' H' σ ρ' → Same S S' → Q b ρ' → Qh b H') ∧ ExC K RK W g S E
def liftA (d : DA) : TA := fun σ H Qh => ∃ g S ρ Q E, ER K RK g S H σ ρ ∧ d E ρ Q ∧ (∀ vs H' S' ρ' xs, ER K RK g S' H' σ ρ' → Same S S' → Reps K S' vs xs → Q xs ρ' → Qh vs H') ∧ ExC K RK W g S E
def liftS (d : DS) : TS := fun D σ H => ∃ g S ρ Kd E, ER K RK g S H σ ρ ∧ d E Kd ρ ∧ (∀ σ' H' S' ρ', ER K RK g S' H' σ' ρ' → Same S S' → Kd.nx ρ' → D.nx σ' H') ∧
  (∀ v σ' H' S' ρ' x, ER K RK g S' H' σ' ρ' → Same S S' → Rep K S' v x → Kd.rt x ρ' → D.rt v H') ∧ (∀ σ' H' S' ρ', ER K RK g S' H' σ' ρ' → Same S S' → Kd.bk ρ' → D.bk σ' H') ∧
  (∀ σ' H' S' ρ', ER K RK g S' H' σ' ρ' → Same S S' → Kd.ct ρ' → D.ct σ' H') ∧ ExC K RK W g S E
end
section
variable {K : PySem.W.Frag} {RK : Res → Prop} {W : WX}
theorem ExC.up {g : G} {S S' : Hp} {E : EK} (h : ExC K RK W g S E) (e : Same S S') : ExC K RK W g S' E := fun cls dd σ' H' S2 ρ' x R q r z => h cls dd σ' H' S2 ρ' x R (e.trans q) r z
end

variable (X : Cx) (RK : Res → Prop) (W : WX) in
abbrev DE (e : Expr) (d : DT) : Prop := PE X e (liftE X.K RK W d)
variable (X : Cx) (RK : Res → Prop) (W : WX) in
abbrev DTs (e : Expr) (d : DB) : Prop := PT X e (liftB X.K RK W d)
variable (X : Cx) (RK : Res → Prop) (W : WX) in
abbrev DW (e : Expr) (d : DB) : Prop := PW X e (liftB X.K RK W d)
variable (X : Cx) (RK : Res → Prop) (W : WX) in
abbrev DAs (es : List Expr) (d : DA) : Prop := PA X es (liftA X.K RK W d)
variable (X : Cx) (RK : Res → Prop) (W : WX) in
abbrev DSt (st : Stmt) (d : DS) : Prop := PS X st (liftS X.K RK W d)
variable (X : Cx) (RK : Res → Prop) (W : WX) in
abbrev DSs (st : List Stmt) (d : DS) : Prop := PSs X st (liftS X.K RK W d)

section
variable {X : Cx}
theorem pe_weak {e : Expr} {t t' : TE} (h : PE X e t) (i : ∀ σ H Q, t' σ H Q → t σ H Q) : PE X e t' := ⟨fun pins s σ H Q I q => h.run pins s σ H Q I (i σ H Q q)⟩
theorem pt_weak {e : Expr} {t t' : TT} (h : PT X e t) (i : ∀ σ H Q, t' σ H Q → t σ H Q) : PT X e t' := ⟨fun pins s σ H Q I q => h.run pins s σ H Q I (i σ H Q q)⟩
theorem pw_weak {e : Expr} {t t' : TT} (h : PW X e t) (i : ∀ σ H Q, t' σ H Q → t σ H Q) : PW X e t' := ⟨fun wh pins s σ H Q I q => h.run wh pins s σ H Q I (i σ H Q q)⟩
theorem pa_weak {e : List Expr} {t t' : TA} (h : PA X e t) (i : ∀ σ H Q, t' σ H Q → t σ H Q) : PA X e t' := ⟨fun po pins s σ H Q I q => h.run po pins s σ H Q I (i σ H Q q)⟩
theorem ps_weak {e : Stmt} {t t' : TS} (h : PS X e t) (i : ∀ D σ H, t' D σ H → t D σ H) : PS X e t' := ⟨fun pins s σ H D I q => h.run pins s σ H D I (i D σ H q)⟩
theorem pss_weak {e : List Stmt} {t t' : TS} (h : PSs X e t) (i : ∀ D σ H, t' D σ H → t D σ H) : PSs X e t' := ⟨fun pins s σ H D I q => h.run pins s σ H D I (i D σ H q)⟩
end

/-! ### names, constants -/
def dVar (i : Nat) : DT := fun _ ρ Q => match ρ[i]? with
  | some (.dat d) => Q d ρ
  | some (.own _ ds) => Q (.lst ds) (ρ.set i (.dat (.lst ds)))
  | some (.ownK _ ks) => Q (.dct (ks.map (·.1)) (ks.map (·.2))) (ρ.set i (.dat (.dct (ks.map (·.1)) (ks.map (·.2)))))
  | _ => False
@[simp] def dC (c : D) : DT := fun _ ρ Q => Q c ρ
section
variable {X : Cx} {RK : Res → Prop} {W : WX} {pos : Pos}
theorem lift_var (i : Nat) : ∀ σ H Q, liftE X.K RK W (dVar i) σ H Q → tVar i σ H Q := by
  rintro σ H Qh ⟨g, S, ρ, Q, E, R, h, hq, _⟩
  unfold dVar at h
  cases e : ρ[i]? with
  | none => rw [e] at h; exact h.elim
  | some c =>
    rw [e] at h
    cases c with
    | un => exact h.elim
    | res => exact h.elim
    | dat d =>
      obtain ⟨v, h1, h2⟩ := R.cell i _ e
      exact ⟨v, h1, hq v H S ρ d R (Same.refl S) h2 h⟩
    | own p ds =>
      obtain ⟨S', R', e', h1, h2⟩ := R.freeze e
      exact ⟨_, h1, hq _ H S' _ _ R' e' h2 h⟩
    | ownK p ks =>
      obtain ⟨S', R', e', h1, h2⟩ := R.freezeK e
      exact ⟨_, h1, hq _ H S' _ _ R' e' h2 h⟩
theorem de_v (i : Nat) {x : Str} (hN : X.N[i]? = some x := by rfl) (hv : Vis X.env.scope x := by first | exact Or.inl rfl | exact Or.inr (Or.inl rfl) | exact Or.inr (Or.inr rfl)) (hd : (x == ("__debug__" : Str)) = false := by decide)
    (hcd : (x == ("__classdict__" : Str)) = false := by decide) : DE X RK W (.Name x pos) (dVar i) := pe_weak (pe_var hN hv hd hcd) (lift_var i)
theorem lift_c {v : V} {c : D} (h : ∀ S, Rep X.K S v c) : ∀ σ H Q, liftE X.K RK W (dC c) σ H Q → tC v σ H Q := by
  rintro σ H Qh ⟨g, S, ρ, Q, E, R, q, hq, _⟩
  exact hq v H S ρ c R (Same.refl S) (h S) q
theorem de_int {i j} : DE X RK W (.Constant (.int i) j pos) (dC (.int i)) := pe_weak pe_int (lift_c fun _ => .int i)
theorem de_bl {b j} : DE X RK W (.Constant (.bool b) j pos) (dC (.bl b)) := pe_weak pe_bl (lift_c fun _ => .bl b)
theorem de_non {j} : DE X RK W (.Constant .none j pos) (dC .non) := pe_weak pe_non (lift_c fun _ => .non)
theorem de_str {x j} : DE X RK W (.Constant (.str x) j pos) (dC (.str x)) := pe_weak pe_str (lift_c fun _ => .str x)
/-- a module's constant -/
theorem de_glob {x : Str} {v : V} {c : D} {u : Value} (hg : Gl X x) (hm : X.mg x = some u) (r : RelV v u) (hc : ∀ S, Rep X.K S v c) (hd : (x == ("__debug__" : Str)) = false := by decide) : DE X RK W (.Name x pos) (dC c) :=
  pe_weak (pe_glob hg hm r hd) (lift_c hc)
/-- a built-in's name -/
theorem de_bltn {x : Str} {v : V} {u : Value} (hg : Gl X x) (hm : X.mg x = none) (hv : bootBuiltins x = some u) (r : RelV v u) (hn : x ≠ "__name__" := by decide) (hd : (x == ("__debug__" : Str)) = false := by decide) : DE X RK W (.Name x pos) (dC (.raw v)) :=
  pe_weak (pe_bltn hg hm hv r hn hd) (lift_c fun _ => .raw v)
end

/-! ### operations -/
/-- a two-place operation's reading on the heap, from data -/
def OpD (K : PySem.W.Frag) (r : R2) (f : D → D → (D → Prop) → Prop) : Prop :=
  ∀ (RK : Res → Prop) (g : G) (S H : Hp) (σ : L2.St) (ρ : Rho) (x y : D) (v u : V) (k : D → Prop) (Qh : VK), ER K RK g S H σ ρ → Rep K S v x → Rep K S u y → f x y k →
    (∀ w H' S' z, ER K RK g S' H' σ ρ → Same S S' → Rep K S' w z → k z → Qh w H') → r v u H Qh
@[simp] def dBin (f : D → D → (D → Prop) → Prop) (da db : DT) : DT := fun E ρ Q => da E ρ fun x ρ1 => db E ρ1 fun y ρ2 => f x y fun z => Q z ρ2
section
variable {X : Cx} {RK : Res → Prop} {W : WX} {pos : Pos} {a b c : Expr} {da db dc : DT} {f f' : D → D → (D → Prop) → Prop} {r r' : R2}
theorem lift_bin (hf : OpD X.K r f) : ∀ σ H Q, liftE X.K RK W (dBin f da db) σ H Q → tOp r (liftE X.K RK W da) (liftE X.K RK W db) σ H Q := by
  rintro σ H Qh ⟨g, S, ρ, Q, E, R, h, hq, hx⟩
  exact ⟨g, S, ρ, _, E, R, h, fun v H1 S1 ρ1 x R1 e1 r1 q1 => ⟨g, S1, ρ1, _, E, R1, q1, fun u H2 S2 ρ2 y R2 e2 r2 q2 =>
    hf RK g S2 H2 σ ρ2 x y v u _ Qh R2 (r1.up e2) r2 q2 fun w H3 S3 z R3 e3 r3 k3 => hq w H3 S3 ρ2 z R3 ((e1.trans e2).trans e3) r3 k3, hx.up e1⟩, hx⟩
theorem de_bin {op : Operator} (ho : OpR X (binaryOp op) r) (hf : OpD X.K r f) (ha : DE X RK W a da) (hb : DE X RK W b db) : DE X RK W (.BinOp a op b pos) (dBin f da db) := pe_weak (pe_op ho ha hb) (lift_bin hf)
theorem de_cmp {op : CmpOp} (ho : OpR X (compareOp op) r) (hf : OpD X.K r f) (ha : DE X RK W a da) (hb : DE X RK W b db) (hm : behindInMarks op b = false) : DE X RK W (.Compare a [op] [b] pos) (dBin f da db) := pe_weak (pe_cmpR ho ha hb hm) (lift_bin hf)
/-- a value that is True or False, as a test -/
def dTst (d : DT) : DB := fun E ρ Q => d E ρ fun x ρ' => match x with
  | .bl b => Q b ρ'
  | _ => False
theorem lift_tst {d : DT} : ∀ σ H Q, liftB X.K RK W (dTst d) σ H Q → tTest (liftE X.K RK W d) σ H Q := by
  rintro σ H Qh ⟨g, S, ρ, Q, E, R, h, hq, hx⟩
  refine ⟨g, S, ρ, _, E, R, h, fun v H' S' ρ' x R' e r q => ?_, hx⟩
  cases x with
  | bl b => cases r; exact ⟨b, rfl, hq b H' S' ρ' R' e q⟩
  | _ => exact q.elim
theorem dt_cmp {op : CmpOp} (ho : OpR X (compareOp op) r) (hf : OpD X.K r f) (ha : DE X RK W a da) (hb : DE X RK W b db) (hm : behindInMarks op b = false) : DTs X RK W (.Compare a [op] [b] pos) (dTst (dBin f da db)) :=
  pt_weak (pt_cmpR ho ha hb hm) fun σ H Q h => by
    have h1 := lift_tst σ H Q h
    obtain ⟨g, S, ρ, Q', E, R, h2, hq, hx⟩ := h1
    exact lift_bin hf σ H _ ⟨g, S, ρ, Q', E, R, h2, hq, hx⟩
def dChain (f f' : D → D → (D → Prop) → Prop) (da db dc : DT) : DT := fun E ρ Q => da E ρ fun x ρ1 => db E ρ1 fun y ρ2 => f x y fun z => match z with
  | .bl true => dc E ρ2 fun w ρ3 => f' y w fun z' => Q z' ρ3
  | .bl false => Q (.bl false) ρ2
  | _ => False
theorem lift_chain (hf : OpD X.K r f) (hf' : OpD X.K r' f') : ∀ σ H Q, liftE X.K RK W (dChain f f' da db dc) σ H Q → tChain r r' (liftE X.K RK W da) (liftE X.K RK W db) (liftE X.K RK W dc) σ H Q := by
  rintro σ H Qh ⟨g, S, ρ, Q, E, R, h, hq, hx⟩
  refine ⟨g, S, ρ, _, E, R, h, fun v H1 S1 ρ1 x R1 e1 r1 q1 => ⟨g, S1, ρ1, _, E, R1, q1, fun u H2 S2 ρ2 y R2 e2 r2 q2 => ?_, hx.up e1⟩, hx⟩
  refine hf RK g S2 H2 σ ρ2 x y v u _ _ R2 (r1.up e2) r2 q2 fun w H3 S3 z R3 e3 r3 k3 => ?_
  cases z with
  | bl k =>
    cases r3
    cases k with
    | true =>
      refine ⟨true, rfl, ?_⟩
      rw [if_pos rfl]
      exact ⟨g, S3, ρ2, _, E, R3, k3, fun w' H4 S4 ρ4 z' R4 e4 r4 q4 => hf' RK g S4 H4 σ ρ4 y z' u w' _ Qh R4 (r2.up (e3.trans e4)) r4 q4 fun w5 H5 S5 z5 R5 e5 r5 k5 =>
        hq w5 H5 S5 ρ4 z5 R5 ((((e1.trans e2).trans e3).trans e4).trans e5) r5 k5, hx.up ((e1.trans e2).trans e3)⟩
    | false =>
      refine ⟨false, rfl, ?_⟩
      rw [if_neg Bool.false_ne_true]
      exact hq _ H3 S3 ρ2 _ R3 ((e1.trans e2).trans e3) (.bl false) k3
  | _ => exact k3.elim
theorem de_chain {op op' : CmpOp} (ho : OpR X (compareOp op) r) (hf : OpD X.K r f) (ho' : OpR X (compareOp op') r') (hf' : OpD X.K r' f') (ha : DE X RK W a da) (hb : DE X RK W b db) (hc : DE X RK W c dc)
    (hm : lastMarks [op, op'] [b, c] = false := by with_unfolding_all rfl) : DE X RK W (.Compare a [op, op'] [b, c] pos) (dChain f f' da db dc) := pe_weak (pe_chain ho ho' ha hb hc hm) (lift_chain hf hf')
theorem dt_chain {op op' : CmpOp} (ho : OpR X (compareOp op) r) (hf : OpD X.K r f) (ho' : OpR X (compareOp op') r') (hf' : OpD X.K r' f') (ha : DE X RK W a da) (hb : DE X RK W b db) (hc : DE X RK W c dc)
    (hm : lastMarks [op, op'] [b, c] = false := by with_unfolding_all rfl) : DTs X RK W (.Compare a [op, op'] [b, c] pos) (dTst (dChain f f' da db dc)) :=
  pt_weak (pt_chain ho ho' ha hb hc hm) fun σ H Q h => lift_chain hf hf' σ H _ (lift_tst σ H Q h)
end

/-! ### and, or, not, a if t else b -/
def dBAnd (p q : DB) : DB := fun E ρ Q => p E ρ fun b ρ1 => match b with
  | true => q E ρ1 Q
  | false => Q false ρ1
def dBOr (p q : DB) : DB := fun E ρ Q => p E ρ fun b ρ1 => match b with
  | true => Q true ρ1
  | false => q E ρ1 Q
@[simp] def dBNot (p : DB) : DB := fun E ρ Q => p E ρ fun b ρ1 => Q (!b) ρ1
def dAndV (p q : DT) : DT := fun E ρ Q => p E ρ fun x ρ1 => match x with
  | .bl true => q E ρ1 Q
  | .bl false => Q (.bl false) ρ1
  | _ => False
def dOrV (p q : DT) : DT := fun E ρ Q => p E ρ fun x ρ1 => match x with
  | .bl true => Q (.bl true) ρ1
  | .bl false => q E ρ1 Q
  | _ => False
def dNotV (p : DT) : DT := fun E ρ Q => p E ρ fun x ρ1 => match x with
  | .bl b => Q (.bl (!b)) ρ1
  | _ => False
def dIfE (t : DB) (p q : DT) : DT := fun E ρ Q => t E ρ fun b ρ1 => match b with
  | true => p E ρ1 Q
  | false => q E ρ1 Q
/-- a value's truth -/
def dTru (d : DT) : DB := fun E ρ Q => d E ρ fun x ρ' => match x with
  | .non => Q false ρ'
  | .bl b => Q b ρ'
  | .int i => Q (i != 0) ρ'
  | .str y => y.length ≤ sizeLine ∧ Q ((y.length : Int) != 0) ρ'
  | .lst ds => Q (!ds.isEmpty) ρ'
  | .tup ds => Q (!ds.isEmpty) ρ'
  | .dct ks _ => Q (!ks.isEmpty) ρ'
  | _ => False
theorem Reps.isEmpty {K : PySem.W.Frag} {S : Hp} {xs : List V} {ds : List D} (h : Reps K S xs ds) : xs.isEmpty = ds.isEmpty := by
  cases h <;> rfl
section
variable {X : Cx} {RK : Res → Prop} {W : WX} {pos : Pos} {a b c : Expr} {es rest : List Expr} {p q : DB} {da db : DT}
theorem dw_and1 (ha : DTs X RK W a p) : DW X RK W (.BoolOp .And [a] pos) p := pw_and1 ha
theorem dw_or1 (ha : DTs X RK W a p) : DW X RK W (.BoolOp .Or [a] pos) p := pw_or1 ha
theorem dw_and (ha : DTs X RK W a p) (hb : DW X RK W (.BoolOp .And (b :: rest) pos) q) : DW X RK W (.BoolOp .And (a :: b :: rest) pos) (dBAnd p q) := pw_weak (pw_and ha hb) (by
  rintro σ H Qh ⟨g, S, ρ, Q, E, R, h, hq, hx⟩
  refine ⟨g, S, ρ, _, E, R, h, fun c H1 S1 ρ1 R1 e1 q1 => ?_, hx⟩
  cases c with
  | true => rw [if_pos rfl]; exact ⟨g, S1, ρ1, Q, E, R1, q1, fun b H2 S2 ρ2 R2 e2 q2 => hq b H2 S2 ρ2 R2 (e1.trans e2) q2, hx.up e1⟩
  | false => rw [if_neg Bool.false_ne_true]; exact hq _ H1 S1 ρ1 R1 e1 q1)
theorem dw_or (ha : DTs X RK W a p) (hb : DW X RK W (.BoolOp .Or (b :: rest) pos) q) : DW X RK W (.BoolOp .Or (a :: b :: rest) pos) (dBOr p q) := pw_weak (pw_or ha hb) (by
  rintro σ H Qh ⟨g, S, ρ, Q, E, R, h, hq, hx⟩
  refine ⟨g, S, ρ, _, E, R, h, fun c H1 S1 ρ1 R1 e1 q1 => ?_, hx⟩
  cases c with
  | false => rw [if_neg Bool.false_ne_true]; exact ⟨g, S1, ρ1, Q, E, R1, q1, fun b H2 S2 ρ2 R2 e2 q2 => hq b H2 S2 ρ2 R2 (e1.trans e2) q2, hx.up e1⟩
  | true => rw [if_pos rfl]; exact hq _ H1 S1 ρ1 R1 e1 q1)
theorem dt_w (h : DW X RK W a p) : DTs X RK W a p := h.pt
theorem dt_not (ha : DTs X RK W a p) : DTs X RK W (.UnaryOp .Not a pos) (dBNot p) := pt_weak (pt_not ha) (by
  rintro σ H Qh ⟨g, S, ρ, Q, E, R, h, hq, hx⟩
  exact ⟨g, S, ρ, _, E, R, h, fun c H1 S1 ρ1 R1 e1 q1 => hq _ H1 S1 ρ1 R1 e1 q1, hx⟩)
theorem de_not (ha : DE X RK W a da) : DE X RK W (.UnaryOp .Not a pos) (dNotV da) := pe_weak (pe_not ha) (by
  rintro σ H Qh ⟨g, S, ρ, Q, E, R, h, hq, hx⟩
  refine ⟨g, S, ρ, _, E, R, h, fun v H1 S1 ρ1 x R1 e1 r1 q1 => ?_, hx⟩
  cases x with
  | bl b => cases r1; exact ⟨b, rfl, hq _ H1 S1 ρ1 _ R1 e1 (.bl _) q1⟩
  | _ => exact q1.elim)
theorem de_one {op} (ha : DE X RK W a da) : DE X RK W (.BoolOp op [a] pos) da := pe_one ha
theorem de_and (ha : DE X RK W a da) (hb : DE X RK W (.BoolOp .And (b :: rest) pos) db) : DE X RK W (.BoolOp .And (a :: b :: rest) pos) (dAndV da db) := pe_weak (pe_and ha hb) (by
  rintro σ H Qh ⟨g, S, ρ, Q, E, R, h, hq, hx⟩
  refine ⟨g, S, ρ, _, E, R, h, fun v H1 S1 ρ1 x R1 e1 r1 q1 => ?_, hx⟩
  cases x with
  | bl b =>
    cases r1
    cases b with
    | true => exact ⟨true, rfl, by rw [if_pos rfl]; exact ⟨g, S1, ρ1, Q, E, R1, q1, fun w H2 S2 ρ2 z R2 e2 r2 q2 => hq w H2 S2 ρ2 z R2 (e1.trans e2) r2 q2, hx.up e1⟩⟩
    | false => exact ⟨false, rfl, by rw [if_neg Bool.false_ne_true]; exact hq _ H1 S1 ρ1 _ R1 e1 (.bl _) q1⟩
  | _ => exact q1.elim)
theorem de_or (ha : DE X RK W a da) (hb : DE X RK W (.BoolOp .Or (b :: rest) pos) db) : DE X RK W (.BoolOp .Or (a :: b :: rest) pos) (dOrV da db) := pe_weak (pe_or ha hb) (by
  rintro σ H Qh ⟨g, S, ρ, Q, E, R, h, hq, hx⟩
  refine ⟨g, S, ρ, _, E, R, h, fun v H1 S1 ρ1 x R1 e1 r1 q1 => ?_, hx⟩
  cases x with
  | bl b =>
    cases r1
    cases b with
    | false => exact ⟨false, rfl, by rw [if_neg Bool.false_ne_true]; exact ⟨g, S1, ρ1, Q, E, R1, q1, fun w H2 S2 ρ2 z R2 e2 r2 q2 => hq w H2 S2 ρ2 z R2 (e1.trans e2) r2 q2, hx.up e1⟩⟩
    | true => exact ⟨true, rfl, by rw [if_pos rfl]; exact hq _ H1 S1 ρ1 _ R1 e1 (.bl _) q1⟩
  | _ => exact q1.elim)
theorem de_if (hc : DTs X RK W c p) (ha : DE X RK W a da) (hb : DE X RK W b db) : DE X RK W (.IfExp c a b pos) (dIfE p da db) := pe_weak (pe_ifExp hc ha hb) (by
  rintro σ H Qh ⟨g, S, ρ, Q, E, R, h, hq, hx⟩
  refine ⟨g, S, ρ, _, E, R, h, fun t H1 S1 ρ1 R1 e1 q1 => ?_, hx⟩
  cases t with
  | true => rw [if_pos rfl]; exact ⟨g, S1, ρ1, Q, E, R1, q1, fun w H2 S2 ρ2 z R2 e2 r2 q2 => hq w H2 S2 ρ2 z R2 (e1.trans e2) r2 q2, hx.up e1⟩
  | false => rw [if_neg Bool.false_ne_true]; exact ⟨g, S1, ρ1, Q, E, R1, q1, fun w H2 S2 ρ2 z R2 e2 r2 q2 => hq w H2 S2 ρ2 z R2 (e1.trans e2) r2 q2, hx.up e1⟩)
theorem dt_tru (ha : DE X RK W a da) (he : ∀ whole, isTrue a X.env whole = (do let v ← whole; standAt a.pos; holding [v] (truthy v)) := by intro _; rfl) : DTs X RK W a (dTru da) := pt_weak (pt_truth ha he) (by
  rintro σ H Qh ⟨g, S, ρ, Q, E, R, h, hq, hx⟩
  refine ⟨g, S, ρ, _, E, R, h, fun v H1 S1 ρ1 x R1 e1 r1 q1 => ?_, hx⟩
  cases x with
  | non => cases r1; exact ⟨false, rfl, hq _ H1 S1 ρ1 R1 e1 q1⟩
  | bl b => cases r1; exact ⟨b, rfl, hq _ H1 S1 ρ1 R1 e1 q1⟩
  | int i => cases r1; exact ⟨_, rfl, hq _ H1 S1 ρ1 R1 e1 q1⟩
  | str y => cases r1; exact ⟨_, ⟨q1.1, rfl⟩, hq _ H1 S1 ρ1 R1 e1 q1.2⟩
  | lst ds =>
    cases r1 with
    | lst h1 h2 => exact ⟨_, .inl ⟨_, SqL.of (R1.sub _ _ h1), rfl⟩, hq _ H1 S1 ρ1 R1 e1 (by rw [h2.isEmpty]; exact q1)⟩
  | tup ds =>
    cases r1 with
    | tup h1 h2 => exact ⟨_, .inr (.inl ⟨_, (TupAt.up R1.sub h1).sq, rfl⟩), hq _ H1 S1 ρ1 R1 e1 (by rw [h2.isEmpty]; exact q1)⟩
  | dct ks ds =>
    cases r1 with
    | dct h1 h2 h3 => exact ⟨_, .inr (.inr ⟨_, R1.sub _ _ h1, rfl⟩), hq _ H1 S1 ρ1 R1 e1 (by
        have q2 : Q (!ks.isEmpty) ρ1 := q1
        rw [← h2] at q2
        rename_i kvs
        have z : (kvs.map (·.1)).isEmpty = kvs.isEmpty := by cases kvs <;> rfl
        rw [z] at q2; exact q2)⟩
  | raw v => exact q1.elim
  | fn v => exact q1.elim)
end

/-! ### arguments, displays -/
@[simp] def dANil : DA := fun _ ρ Q => Q [] ρ
@[simp] def dACons (d : DT) (r : DA) : DA := fun E ρ Q => d E ρ fun x ρ1 => r E ρ1 fun xs ρ2 => Q (x :: xs) ρ2
@[simp] def dTup (r : DA) : DT := fun E ρ Q => r E ρ fun xs ρ1 => xs.length ≤ sizeLine ∧ Q (.tup xs) ρ1
@[simp] def dLst (r : DA) : DT := fun E ρ Q => r E ρ fun xs ρ1 => xs.length ≤ sizeLine ∧ Q (.lst xs) ρ1
section
variable {X : Cx} {RK : Res → Prop} {W : WX} {pos : Pos} {e : Expr} {es : List Expr} {d : DT} {r : DA}
theorem da_nil : DAs X RK W [] dANil := pa_weak pa_nil (by
  rintro σ H Qh ⟨g, S, ρ, Q, E, R, h, hq, hx⟩
  exact hq [] H S ρ [] R (Same.refl S) .nil h)
theorem da_cons (he : DE X RK W e d) (hr : DAs X RK W es r) (hs : starEach (e :: es) X.env = (false, eval e X.env) :: starEach es X.env := by rfl) : DAs X RK W (e :: es) (dACons d r) := pa_weak (pa_cons he hr hs) (by
  rintro σ H Qh ⟨g, S, ρ, Q, E, R, h, hq, hx⟩
  exact ⟨g, S, ρ, _, E, R, h, fun v H1 S1 ρ1 x R1 e1 r1 q1 => ⟨g, S1, ρ1, _, E, R1, q1, fun vs H2 S2 ρ2 xs R2 e2 r2 q2 => hq (v :: vs) H2 S2 ρ2 (x :: xs) R2 (e1.trans e2) (.cons (r1.up e2) r2) q2, hx.up e1⟩, hx⟩)
theorem de_tup {n} (h : DAs X RK W es r) : DE X RK W (.Tuple es n pos) (dTup r) := pe_weak (pe_tup h) (by
  rintro σ H Qh ⟨g, S, ρ, Q, E, R, h, hq, hx⟩
  refine ⟨g, S, ρ, _, E, R, h, fun vs H1 S1 ρ1 xs R1 e1 r1 q1 => ⟨by rw [r1.length]; exact q1.1, fun p hp => ?_⟩, hx⟩
  obtain ⟨R2, e2⟩ := R1.alloc (o := .tup vs) hp
  exact hq _ _ _ ρ1 _ R2 (e1.trans e2) (.tup (.inl upd_same) (r1.up e2)) q1.2)
theorem de_lst (h : DAs X RK W es r) : DE X RK W (.List es pos) (dLst r) := pe_weak (pe_lst h) (by
  rintro σ H Qh ⟨g, S, ρ, Q, E, R, h, hq, hx⟩
  refine ⟨g, S, ρ, _, E, R, h, fun vs H1 S1 ρ1 xs R1 e1 r1 q1 => ⟨by rw [r1.length]; exact q1.1, fun p hp => ?_⟩, hx⟩
  obtain ⟨R2, e2⟩ := R1.alloc (o := .lst vs) hp
  exact hq _ _ _ ρ1 _ R2 (e1.trans e2) (.lst upd_same (r1.up e2)) q1.2)
end
end DL
/-! DL3: defs and calls where no repr is under way; statements -/
namespace DL
open PySem PySem.Spec PyProof.Rows L2

/-- nothing is being shown -/
abbrev Gd (A : Around) : Prop := A.guards = some []
/-- .. where it matters -/
abbrev GdB (γ : Bool) (A : Around) : Prop := γ = true → Gd A
/-- a def's promise, called where nothing is being shown -/
structure FnG (γ : Bool) (P : Program) (w : World) (K : PySem.W.Frag) (mg : Str → Option Value) (base : Heap) (k : Nat) (f : Addr) (fd : FuncData) (ps : List Str) (sp : Sp) : Prop where
  len : ∀ vs H Q E, sp vs H Q E → vs.length = ps.length
  run : ∀ (A : Around) (outer : List Env) (s : Shared) (H : Hp) (args : Args) (us : List Value) (vs : List V) (Q : VK) (E : XK),
    Room k A → GdB γ A → Env0 P w K mg base A outer s H → BindsTo s fd args (ps.zip us) → Vals vs us → sp vs H Q E →
    codeAny (model P w) A (.call (.ref f) args) (CR (L2.CX P w) outer P w H s Q E) s
theorem FnG.imp {P : Program} {w : World} {K : PySem.W.Frag} {mg : Str → Option Value} {base : Heap} {k : Nat} {f : Addr} {fd : FuncData} {ps : List Str} {sp sp' : Sp} {γ : Bool} (F : FnG γ P w K mg base k f fd ps sp) (h : ∀ vs H Q E, sp' vs H Q E → sp vs H Q E) :
    FnG γ P w K mg base k f fd ps sp' :=
  ⟨fun vs H Q E q => F.len vs H Q E (h vs H Q E q), fun A outer s H args us vs Q E a b c d e q => F.run A outer s H args us vs Q E a b c d e (h vs H Q E q)⟩
theorem FnG.up {P : Program} {w : World} {K : PySem.W.Frag} {mg : Str → Option Value} {base : Heap} {j k : Nat} {f : Addr} {fd : FuncData} {ps : List Str} {sp : Sp} {γ : Bool} (F : FnG γ P w K mg base j f fd ps sp) (h : j ≤ k) : FnG γ P w K mg base k f fd ps sp :=
  ⟨F.len, fun A outer s H args us vs Q E a b c d e q => F.run A outer s H args us vs Q E (a.mono h) b c d e q⟩

section
variable {P : Program} {w : World} {K : PySem.W.Frag} {mg : Str → Option Value} {base : Heap} {k : Nat} {f : Addr} {name qual : Str} {params : Arguments} {body : List Stmt} {scope : Scope} {dV kV doc pm cdv ct oc : Value} {an od : Option Addr}
  {osl : Array (Option Value)} {N ps : List Str} {sp : Sp} {γ : Bool}
/-- a def by its body -/
theorem fnG_of (lk : K.lookup f = some ⟨oc, od, .func (PySem.W.fnOf name qual params body scope dV kV doc pm an cdv ct), osl⟩) (hcd : PySem.W.codeIn K cdv qual = true) (Sc : FnScope N ps scope)
    (len : ∀ vs H Q E, sp vs H Q E → vs.length = ps.length)
    (hbody : ∀ (A : Around) (outer : List Env) (s : Shared) (H : Hp) (vs : List V) (Q : VK) (E : XK), Room k (A.deeper (envOfC qual scope s.heap.objs.size f cdv)) → GdB γ (A.deeper (envOfC qual scope s.heap.objs.size f cdv)) → sp vs H Q E →
      ∃ t, PSs (cxOf (L2.CX P w) P w K mg base N qual scope f cdv A outer s H E) body t ∧ t { nx := fun _ H' => Q .non H', rt := Q } (start N vs) H) :
    FnG γ P w K mg base (k + 1) f (PySem.W.fnOf name qual params body scope dV kV doc pm an cdv ct) ps sp := by
  constructor
  · exact len
  intro A outer s H args us vs Q E hr hg e0 hb rv hs
  have hl := len vs H Q E hs
  have kp : ∀ b o, base.get? b = some o → s.heap.get? b = some o := fun b o e => (e0.bs b o e).1
  have KX : K.In s.heap := e0.mod.kin.keeps kp
  have lim : s.heap.NoLimit := e0.mod.nolimit.keeps kp
  have hk : ∀ y ∈ ps.zip us, scope.names.lookup y.1 = some .local ∨ (scope.names.lookup y.1 = some .cell ∧ ((cellsFrom (s.heap.objs.size + 1) scope.names []).lookup y.1).isSome = true) := by
    rintro ⟨n, v⟩ hy
    have hn := Sc.par n (List.of_mem_zip hy).1
    cases hn with
    | inl z => exact Or.inl z
    | inr z => exact Or.inr ⟨z, PySem.W.cellsFrom_some _ _ _ (Or.inl z)⟩
  apply codeAny_call_function hr.depth (KX _ _ lk) rfl Sc.co Sc.gen rfl (PySem.W.codeRec_of KX hcd)
  apply hb
  apply wpAny_newFunctionEnv_cells Sc.kind hk
  intro env he s1 x
  subst he
  constructor
  · exact lim.keeps x.toInCall.keep
  apply codeAny_func
  obtain ⟨t, ht, hq⟩ := hbody A outer s H vs Q E (hr.deeper _) hg hs
  have I := inv_start (CX := L2.CX P w) (E := E) Sc hr.hd e0 hl rv x
  apply wpAny_mono (ht.run [] s1 (start N vs) H _ I hq)
  · intro fl s' z
    cases fl with
    | ret u => obtain ⟨v, σ', H', J, r', q'⟩ := z; exact ⟨v, H', J.os, J.bare, J.base, J.hok, r', q'⟩
    | next => obtain ⟨σ', H', J, q'⟩ := z; exact ⟨V.non, H', J.os, J.bare, J.base, J.hok, rfl, q'⟩
    | brk => obtain ⟨_, _, _, q'⟩ := z; exact q'.elim
    | cont => obtain ⟨_, _, _, q'⟩ := z; exact q'.elim
  · intro e s' z
    exact z
end
section
variable {X : Cx} {W : WX} {k : Nat} {f : Addr} {fd : FuncData} {ps : List Str} {sp : Sp} {x : Str} {p pos : Pos} {e : Expr} {es : List Expr} {t : TA} {ds : List Value} {dvs : List V} {γ : Bool}
theorem run_G {pins : List (Addr × Obj)} {σ : L2.St} {H : Hp} {s : Shared} {Q : VK} {us : List Value} {vs : List V} (F : FnG γ X.prog X.w X.K X.mg X.base k f fd ps sp) (hr : Room k X.A) (hgd : GdB γ X.A) (hb : Binds X.K fd ps ds) (hd : Vals dvs ds) (tk : Takes X W)
    (I : Inv X pins σ H s) (r : Vals vs us) (h : sp (vs ++ dvs) H Q (WE W σ)) : wpAny (model X.prog X.w) X.A (call (.ref f) us) (EP X pins σ Q) X.xe s := by
  have r2 : Vals (vs ++ dvs) (us ++ ds) := r.append hd
  have hl : (us ++ ds).length = ps.length := r2.length.symm.trans (F.len _ _ _ _ h)
  apply wpAny_call
  apply codeAny_mono (F.run X.A X.stack s H ⟨us, []⟩ (us ++ ds) (vs ++ dvs) Q (WE W σ) hr hgd I.env0 (hb s us I.kIn hl) r2 h)
  intro r s' hq
  cases r with
  | error e => exact passAt tk σ pins H s e s' I hq
  | ok fl =>
    cases fl with
    | ret u => exact I.after hq
    | next => exact hq.elim
    | brk => exact hq.elim
    | cont => exact hq.elim
def tCallG (sp : Sp) (dvs : List V) (W : WX) (t : TA) : TE := fun σ H Q => t σ H fun vs H1 => sp (vs ++ dvs) H1 Q (WE W σ)
theorem pe_callG (F : FnG γ X.prog X.w X.K X.mg X.base k f fd ps sp) (hr : Room k X.A) (hgd : GdB γ X.A) (hg : Gl X x) (hm : X.mg x = some (.ref f)) (hk : PySem.W.keepIn X.K (.ref f) = true) (hb : Binds X.K fd ps ds) (hd : Vals dvs ds) (tk : Takes X W)
    (ha : PA X (e :: es) t) (hdb : (x == ("__debug__" : Str)) = false := by decide) (he : starEach (e :: es) X.env = (false, eval e X.env) :: starEach es X.env := by rfl)
    (hpl : (backTo pos (starEach es X.env)).any (·.1) = false := by rfl) : PE X (.Call (.Name x p) (e :: es) [] pos) (tCallG sp dvs W t) := by
  constructor
  intro pins s σ H Q I h
  apply wpAny_Call_Name_kw
  apply ld_glob I hg hm _ hdb
  apply PySem.W.callWith_K (h₀ := X.base) I.ok.mod.kin hk _ he hpl
  apply thn (ha.run pos pins s σ H _ I h)
  rintro us s1 ⟨vs, H1, I1, r, q⟩
  exact ⟨I1.kIn, run_G F hr hgd hb hd tk I1 r q⟩
theorem pe_callG0 (F : FnG γ X.prog X.w X.K X.mg X.base k f fd ps sp) (hr : Room k X.A) (hgd : GdB γ X.A) (hg : Gl X x) (hm : X.mg x = some (.ref f)) (hk : PySem.W.keepIn X.K (.ref f) = true) (hb : Binds X.K fd ps ds) (hd : Vals dvs ds) (tk : Takes X W)
    (hdb : (x == ("__debug__" : Str)) = false := by decide) : PE X (.Call (.Name x p) [] [] pos) (tCallG sp dvs W tNil) := by
  constructor
  intro pins s σ H Q I h
  apply wpAny_Call_Name_kw
  apply ld_glob I hg hm _ hdb
  exact PySem.W.callWith_K0 I.kIn hk (run_G (us := []) (vs := []) F hr hgd hb hd tk I .nil h)
end

/-! ### promises over data -/
abbrev TSp := List D → (D → Prop) → (Exn → Prop) → Prop
def MonoT (T : TSp) : Prop := ∀ ds R R' E E', (∀ v, R v → R' v) → (∀ v, E v → E' v) → T ds R E → T ds R' E'
/-- what stands behind a call of a def that changes nothing of what it is handed -/
def spP (K : PySem.W.Frag) (T : TSp) : Sp := fun vs H Q E => ∃ S ds, Same S H ∧ NTS S ∧ Reps K S vs ds ∧
  T ds (fun r => ∀ v H' S', Same H H' → Same S S' → Same S' H' → (∀ a o, S' a = some o → S a = some o ∨ H a = none) → NTS S' → Rep K S' v r → Q v H')
    (fun x => ∀ cls dd H' S', Same H H' → Same S S' → Same S' H' → (∀ a o, S' a = some o → S a = some o ∨ H a = none) → NTS S' → ExR K S' H' cls dd x → E cls dd H')
/-- .. of one that changes the resource, its first argument -/
def spR (K : PySem.W.Frag) (RK : Res → Prop) (T : TSp) : Sp := fun vs H Q E => ∃ (r : Res) (vs' : List V) (S : Hp) (ds : List D), RK r ∧ r.ok S H ∧ vs = .ref r.p :: vs' ∧ Same S H ∧ NTS S ∧ (∀ a ∈ r.fp, S a = none) ∧ Reps K S vs' ds ∧
  T ds (fun x => ∀ v H' S', (∀ a o, a ∉ r.fp → H a = some o → H' a = some o) → r.ok S' H' → Same S S' → Same S' H' → (∀ a o, S' a = some o → S a = some o ∨ H a = none) → NTS S' → Rep K S' v x → Q v H')
    (fun x => ∀ cls dd H' S', (∀ a o, a ∉ r.fp → H a = some o → H' a = some o) → r.ok S' H' → Same S S' → Same S' H' → (∀ a o, S' a = some o → S a = some o ∨ H a = none) → NTS S' → ExR K S' H' cls dd x → E cls dd H')

/-- the cells at a def's entry -/
@[simp] def rho0 (n : Nat) (ds : List D) : Rho := ds.map Cell.dat ++ List.replicate (n - ds.length) Cell.un
@[simp] def rhoR (n : Nat) (ds : List D) : Rho := Cell.res :: rho0 (n - 1) ds

theorem reps_len {K : PySem.W.Frag} {S : Hp} {vs : List V} {ds : List D} (h : Reps K S vs ds) : vs.length = ds.length := h.length
theorem start_get {N : List Str} {vs : List V} {i : Nat} (h : i < vs.length) : (L2.start N vs)[i]? = (vs[i]?).map some := by
  unfold L2.start
  rw [List.getElem?_append_left (by simpa using h), List.getElem?_map]
theorem start_len {N : List Str} {vs : List V} (h : vs.length ≤ N.length) : (L2.start N vs).length = N.length := by
  unfold L2.start
  rw [List.length_append, List.length_map, List.length_replicate]; omega
theorem own_rho0 {n i : Nat} {ds : List D} : ownAt (rho0 n ds) i = none := by
  unfold ownAt rho0
  by_cases h : i < ds.length
  · rw [List.getElem?_append_left (by simpa using h), List.getElem?_map, List.getElem?_eq_getElem h]; rfl
  · rw [List.getElem?_append_right (by simpa using h), List.getElem?_replicate]
    split <;> rfl
theorem rho0_cell {K : PySem.W.Frag} {g : G} {S H : Hp} {n i : Nat} {ds : List D} {vs : List V} {c : Cell} {o : Option (Option V)} (r : Reps K S vs ds) (e : (rho0 n ds)[i]? = some c) (ho : i < vs.length → o = (vs[i]?).map some) : CellOk K g S H o c := by
  unfold rho0 at e
  by_cases h : i < ds.length
  · rw [List.getElem?_append_left (by simpa using h), List.getElem?_map, List.getElem?_eq_getElem h] at e
    have e' : Cell.dat ds[i] = c := Option.some.inj e
    subst e'
    obtain ⟨x, h1, h2⟩ := r.get' (List.getElem?_eq_getElem h)
    exact ⟨x, by rw [ho (by rw [r.length]; exact h), h1]; rfl, h2⟩
  · rw [List.getElem?_append_right (by simpa using h), List.getElem?_replicate] at e
    split at e
    · cases e; trivial
    · cases e

section
variable {P : Program} {w : World} {K : PySem.W.Frag} {mg : Str → Option Value} {base : Heap} {x qual : Str} {st : Stmt} {f : Addr} {fd : FuncData} {N ps : List Str} {k : Nat} {T : TSp} {d : DS} {γ : Bool}
/-- THE RULE for a def that changes nothing it is handed -/
theorem def_p (F : Fun K x qual st f fd) (Sc : FnScope N ps (defScope st)) (hlen : ∀ ds R E, T ds R E → ds.length = ps.length)
    (hd : ∀ (cdv : Value) (A : Around) (outer : List Env) (s : Shared) (H : Hp) (E : XK), Room k (A.deeper (envOfC qual (defScope st) s.heap.objs.size f cdv)) → GdB γ (A.deeper (envOfC qual (defScope st) s.heap.objs.size f cdv)) →
      DSs (cxOf (L2.CX P w) P w K mg base N qual (defScope st) f cdv A outer s H E) (fun _ => True) (fun cls dd _ H' => E cls dd H') (defBody st) d)
    (hq : ∀ ds R E, T ds R E → d (fun x _ => E x) { nx := fun _ => R .non, rt := fun x _ => R x } (rho0 N.length ds)) : FnG γ P w K mg base (k + 1) f fd ps (spP K T) := by
  obtain ⟨oc, od, kV, doc, pm, an, cdv, ct, osl, rfl, lk, hcd⟩ := F.ex
  have len : ∀ vs H Q E, spP K T vs H Q E → vs.length = ps.length := by
    rintro vs H Q E ⟨S, ds, _, _, r, t⟩
    rw [r.length]; exact hlen _ _ _ t
  apply fnG_of lk hcd Sc len
  intro A outer s H vs Q E hr hg hs
  have hvl := len vs H Q E hs
  have hpl : ps.length ≤ N.length := by have := congrArg List.length Sc.pre; rw [List.length_take] at this; omega
  refine ⟨_, hd cdv A outer s H E hr hg, ?_⟩
  obtain ⟨S, ds, sub, ntS, r, t⟩ := hs
  have hdl : ds.length = ps.length := hlen _ _ _ t
  have R0 : ER K (fun _ => True) ⟨H, S, noRes⟩ S H (L2.start N vs) (rho0 N.length ds) := by
    refine ⟨trivial, trivial, sub, fun a o _ e => e, fun a o e => .inl e, Same.refl S, fun a ha => (by cases ha), trivial, ?_, fun i c e => rho0_cell r e fun h => start_get h, fun i j p q h => absurd h (by rw [own_rho0]; simp), ntS⟩
    rw [start_len (by omega)]
    unfold rho0
    rw [List.length_append, List.length_map, List.length_replicate]; omega
  have fin : ∀ {σ' H' S' ρ'}, ER K (fun _ => True) ⟨H, S, noRes⟩ S' H' σ' ρ' → Same H H' ∧ Same S' H' ∧ (∀ a o, S' a = some o → S a = some o ∨ H a = none) ∧ NTS S' := fun {σ' H' S' ρ'} R =>
    ⟨fun a o e => R.fr a o (by intro z; cases z) e, R.sub, R.vis, R.nt⟩
  refine ⟨_, S, _, _, _, R0, hq ds _ _ t, ?_, ?_, fun _ _ _ _ _ _ z => z.elim, fun _ _ _ _ _ _ z => z.elim, ?_⟩
  · intro σ' H' S' ρ' R e q
    obtain ⟨a, b, c, n⟩ := fin R
    exact q .non H' S' a e b c n .non
  · intro v σ' H' S' ρ' y R e ry q
    obtain ⟨a, b, c, n⟩ := fin R
    exact q v H' S' a e b c n ry
  · intro cls dd σ' H' S' ρ' y R e ry q
    obtain ⟨a, b, c, n⟩ := fin R
    exact q cls dd H' S' a e b c n ry
/-- .. that changes the resource, its first argument -/
theorem def_r {RK : Res → Prop} {p0 : Str} (F : Fun K x qual st f fd) (Sc : FnScope N (p0 :: ps) (defScope st)) (hlen : ∀ ds R E, T ds R E → ds.length = ps.length)
    (hd : ∀ (cdv : Value) (A : Around) (outer : List Env) (s : Shared) (H : Hp) (E : XK), Room k (A.deeper (envOfC qual (defScope st) s.heap.objs.size f cdv)) → GdB γ (A.deeper (envOfC qual (defScope st) s.heap.objs.size f cdv)) →
      DSs (cxOf (L2.CX P w) P w K mg base N qual (defScope st) f cdv A outer s H E) RK (fun cls dd _ H' => E cls dd H') (defBody st) d)
    (hq : ∀ ds R E, T ds R E → d (fun x _ => E x) { nx := fun _ => R .non, rt := fun x _ => R x } (rhoR N.length ds)) : FnG γ P w K mg base (k + 1) f fd (p0 :: ps) (spR K RK T) := by
  obtain ⟨oc, od, kV, doc, pm, an, cdv, ct, osl, rfl, lk, hcd⟩ := F.ex
  have len : ∀ vs H Q E, spR K RK T vs H Q E → vs.length = (p0 :: ps).length := by
    rintro vs H Q E ⟨r, vs', S, ds, _, _, rfl, _, _, _, rp, t⟩
    rw [List.length_cons, List.length_cons, rp.length, hlen _ _ _ t]
  apply fnG_of lk hcd Sc len
  intro A outer s H vs Q E hr hg hs
  have hvl := len vs H Q E hs
  have hpl : (p0 :: ps).length ≤ N.length := by have := congrArg List.length Sc.pre; rw [List.length_take] at this; omega
  refine ⟨_, hd cdv A outer s H E hr hg, ?_⟩
  obtain ⟨r, vs', S, ds, rk, ok, rfl, sub, ntS, fpS, rp, t⟩ := hs
  have hdl : ds.length = ps.length := hlen _ _ _ t
  have hne : ∀ (i : Nat) c, (rhoR N.length ds)[i]? = some c → CellOk K ⟨H, S, r⟩ S H (L2.start N (V.ref r.p :: vs'))[i]? c := by
    intro i c e
    cases i with
    | zero =>
      have e' : Cell.res = c := Option.some.inj e
      subst e'
      rw [start_get (by simp)]
      rfl
    | succ i =>
      have e' : (rho0 (N.length - 1) ds)[i]? = some c := e
      refine rho0_cell rp e' fun h => ?_
      rw [start_get (by simpa using h)]
      rfl
  have hown : ∀ i : Nat, ownAt (rhoR N.length ds) i = none := by
    intro i
    cases i with
    | zero => rfl
    | succ i => exact own_rho0 (n := N.length - 1) (i := i) (ds := ds)
  rw [List.length_cons] at hpl
  have R0 : ER K RK ⟨H, S, r⟩ S H (L2.start N (V.ref r.p :: vs')) (rhoR N.length ds) := by
    refine ⟨rk, ok, sub, fun a o _ e => e, fun a o e => .inl e, Same.refl S, fpS, ok, ?_, hne, fun i j p q h => absurd h (by rw [hown]; simp), ntS⟩
    rw [start_len (by rw [List.length_cons, rp.length]; omega)]
    unfold rhoR rho0
    rw [List.length_cons, List.length_append, List.length_map, List.length_replicate]; omega
  have fin : ∀ {σ' H' S' ρ'}, ER K RK ⟨H, S, r⟩ S' H' σ' ρ' → (∀ a o, a ∉ r.fp → H a = some o → H' a = some o) ∧ r.ok S' H' ∧ Same S' H' ∧ (∀ a o, S' a = some o → S a = some o ∨ H a = none) ∧ NTS S' := fun {σ' H' S' ρ'} R =>
    ⟨R.fr, R.res, R.sub, R.vis, R.nt⟩
  refine ⟨_, S, _, _, _, R0, hq ds _ _ t, ?_, ?_, fun _ _ _ _ _ _ z => z.elim, fun _ _ _ _ _ _ z => z.elim, ?_⟩
  · intro σ' H' S' ρ' R e q
    obtain ⟨a, b, c, d, n⟩ := fin R
    exact q .non H' S' a b e c d n .non
  · intro v σ' H' S' ρ' y R e ry q
    obtain ⟨a, b, c, d, n⟩ := fin R
    exact q v H' S' a b e c d n ry
  · intro cls dd σ' H' S' ρ' y R e ry q
    obtain ⟨a, b, c, d, n⟩ := fin R
    exact q cls dd H' S' a b e c d n ry
end

/-! ### calls over data -/
@[simp] def dCall (T : TSp) (r : DA) : DT := fun E ρ Q => r E ρ fun ds ρ1 => T ds (fun v => Q v ρ1) (fun x => E x ρ1)
/-- f(hand, ..), hand the resource, at the name i -/
@[simp] def dCallR (T : TSp) (i : Nat) (r : DA) : DT := fun E ρ Q => ρ[i]? = some .res ∧ r E ρ fun ds ρ1 => T ds (fun v => Q v ρ1) (fun x => E x ρ1)
section
variable {X : Cx} {RK : Res → Prop} {W : WX} {k : Nat} {f : Addr} {fd : FuncData} {ps : List Str} {T : TSp} {x y : Str} {p p2 pos : Pos} {e : Expr} {es : List Expr} {r : DA} {ds : List Value} {dvs : List V} {γ : Bool}
theorem call_p {g : G} {S H1 : Hp} {σ : L2.St} {ρ1 : Rho} {vs : List V} {xs : List D} {Q : D → Rho → Prop} {E : EK} {Qh : VK} (R1 : ER X.K RK g S H1 σ ρ1) (r1 : Reps X.K S vs xs) (q1 : T xs (fun v => Q v ρ1) (fun x => E x ρ1))
    (hq : ∀ v H' S' ρ' z, ER X.K RK g S' H' σ ρ' → Same S S' → Rep X.K S' v z → Q z ρ' → Qh v H') (hx : ExC X.K RK W g S E) (mono : MonoT T) : spP X.K T vs H1 Qh (WE W σ) := by
  have nx : ∀ {H' S'}, Same H1 H' → Same S S' → Same S' H' → (∀ a o, S' a = some o → S a = some o ∨ H1 a = none) → NTS S' → ER X.K RK g S' H' σ ρ1 := fun {H' S'} s1 s2 s3 v n =>
    R1.step s2 s3 (fun a o ha q => s1 a o (R1.fr a o ha q)) (fun a o q => (v a o q).elim .inl fun z => .inr (R1.fresh z).1) (fun a ha => by
      cases q : S' a with
      | none => rfl
      | some o =>
        rcases v a o q with z | z
        · have := R1.fpS a ha; rw [z] at this; cases this
        · obtain ⟨o', e'⟩ := g.r.there _ H1 R1.res a ha
          rw [z] at e'; cases e') (g.r.st s2 (fun a ha => by
        obtain ⟨o', e'⟩ := g.r.there _ H1 R1.res a ha
        rw [e', s1 a o' e']) R1.res) (fun i q hq => by
        have hS := R1.ownS hq
        have hH : ∃ o, H1 q = some o := by
          cases w : H1 q with
          | some o => exact ⟨o, rfl⟩
          | none => exact absurd hq ((R1.fresh w).2.2.2 i)
        obtain ⟨o, ho⟩ := hH
        refine ⟨by rw [ho, s1 q o ho], ?_⟩
        cases w : S' q with
        | none => rfl
        | some u =>
          rcases v q u w with z | z
          · rw [hS.1] at z; cases z
          · rw [ho] at z; cases z) n
  refine ⟨S, xs, R1.sub, R1.nt, r1, mono _ _ _ _ _ (fun z q v H' S' s1 s2 s3 vi n rz => hq v H' S' ρ1 z (nx s1 s2 s3 vi n) s2 rz q) (fun z q cls dd H' S' s1 s2 s3 vi n rz => hx cls dd σ H' S' ρ1 z (nx s1 s2 s3 vi n) s2 rz q) q1⟩
theorem call_r {g : G} {S H1 : Hp} {σ : L2.St} {ρ1 : Rho} {vs : List V} {xs : List D} {Q : D → Rho → Prop} {E : EK} {Qh : VK} (R1 : ER X.K RK g S H1 σ ρ1) (r1 : Reps X.K S vs xs) (q1 : T xs (fun v => Q v ρ1) (fun x => E x ρ1))
    (hq : ∀ v H' S' ρ' z, ER X.K RK g S' H' σ ρ' → Same S S' → Rep X.K S' v z → Q z ρ' → Qh v H') (hx : ExC X.K RK W g S E) (mono : MonoT T) : spR X.K RK T (.ref g.r.p :: vs) H1 Qh (WE W σ) := by
  have nx : ∀ {H' S'}, (∀ a o, a ∉ g.r.fp → H1 a = some o → H' a = some o) → g.r.ok S' H' → Same S S' → Same S' H' → (∀ a o, S' a = some o → S a = some o ∨ H1 a = none) → NTS S' → ER X.K RK g S' H' σ ρ1 := fun {H' S'} s1 ok s2 s3 v n =>
    R1.step s2 s3 (fun a o ha q => s1 a o ha (R1.fr a o ha q)) (fun a o q => (v a o q).elim .inl fun z => .inr (R1.fresh z).1) (fun a ha => by
      cases q : S' a with
      | none => rfl
      | some o =>
        rcases v a o q with z | z
        · have := R1.fpS a ha; rw [z] at this; cases this
        · obtain ⟨o', e'⟩ := g.r.there _ H1 R1.res a ha
          rw [z] at e'; cases e') ok (fun i q hq => by
        have hS := R1.ownS hq
        have hH : ∃ o, H1 q = some o := by
          cases w : H1 q with
          | some o => exact ⟨o, rfl⟩
          | none => exact absurd hq ((R1.fresh w).2.2.2 i)
        obtain ⟨o, ho⟩ := hH
        have nf : q ∉ g.r.fp := fun z => by
          obtain ⟨o', e'⟩ := g.r.there _ _ R1.heok q z
          rw [hS.2] at e'; cases e'
        refine ⟨by rw [ho, s1 q o nf ho], ?_⟩
        cases w : S' q with
        | none => rfl
        | some u =>
          rcases v q u w with z | z
          · rw [hS.1] at z; cases z
          · rw [ho] at z; cases z) n
  refine ⟨g.r, vs, S, xs, R1.rk, R1.res, rfl, R1.sub, R1.nt, R1.fpS, r1, mono _ _ _ _ _ (fun z q v H' S' s1 ok s2 s3 vi n rz => hq v H' S' ρ1 z (nx s1 ok s2 s3 vi n) s2 rz q) (fun z q cls dd H' S' s1 ok s2 s3 vi n rz => hx cls dd σ H' S' ρ1 z (nx s1 ok s2 s3 vi n) s2 rz q) q1⟩
theorem de_call (F : FnG γ X.prog X.w X.K X.mg X.base k f fd ps (spP X.K T)) (mono : MonoT T) (hr : Room k X.A) (hgd : GdB γ X.A) (hg : Gl X x) (hm : X.mg x = some (.ref f)) (hk : PySem.W.keepIn X.K (.ref f) = true) (hb : Binds X.K fd ps []) (tk : Takes X W)
    (ha : DAs X RK W (e :: es) r) (hdb : (x == ("__debug__" : Str)) = false := by decide) (he : starEach (e :: es) X.env = (false, eval e X.env) :: starEach es X.env := by rfl)
    (hpl : (backTo pos (starEach es X.env)).any (·.1) = false := by rfl) : DE X RK W (.Call (.Name x p) (e :: es) [] pos) (dCall T r) := pe_weak (pe_callG F hr hgd hg hm hk hb .nil tk ha hdb he hpl) (by
  rintro σ H Qh ⟨g, S, ρ, Q, E, R, h, hq, hx⟩
  refine ⟨g, S, ρ, _, E, R, h, fun vs H1 S1 ρ1 xs R1 e1 r1 q1 => ?_, hx⟩
  show spP X.K T (vs ++ []) H1 Qh (WE W σ)
  rw [List.append_nil]
  exact call_p R1 r1 q1 (fun v H' S' ρ' z R' e' r' q' => hq v H' S' ρ' z R' (e1.trans e') r' q') (hx.up e1) mono)
theorem de_call0 (F : FnG γ X.prog X.w X.K X.mg X.base k f fd ps (spP X.K T)) (mono : MonoT T) (hr : Room k X.A) (hgd : GdB γ X.A) (hg : Gl X x) (hm : X.mg x = some (.ref f)) (hk : PySem.W.keepIn X.K (.ref f) = true) (hb : Binds X.K fd ps []) (tk : Takes X W)
    (hdb : (x == ("__debug__" : Str)) = false := by decide) : DE X RK W (.Call (.Name x p) [] [] pos) (dCall T dANil) := pe_weak (pe_callG0 F hr hgd hg hm hk hb .nil tk hdb) (by
  rintro σ H Qh ⟨g, S, ρ, Q, E, R, h, hq, hx⟩
  exact call_p R .nil h hq hx mono)
theorem de_callR (i : Nat) (F : FnG γ X.prog X.w X.K X.mg X.base k f fd ps (spR X.K RK T)) (mono : MonoT T) (hr : Room k X.A) (hgd : GdB γ X.A) (hg : Gl X x) (hm : X.mg x = some (.ref f)) (hk : PySem.W.keepIn X.K (.ref f) = true) (hb : Binds X.K fd ps []) (tk : Takes X W)
    (ha : DAs X RK W es r) (hN : X.N[i]? = some y := by rfl) (hv : Vis X.env.scope y := by first | exact Or.inl rfl | exact Or.inr (Or.inl rfl) | exact Or.inr (Or.inr rfl)) (hd1 : (y == ("__debug__" : Str)) = false := by decide)
    (hd2 : (y == ("__classdict__" : Str)) = false := by decide) (hdb : (x == ("__debug__" : Str)) = false := by decide)
    (he : starEach (.Name y p2 :: es) X.env = (false, eval (.Name y p2) X.env) :: starEach es X.env := by rfl)
    (hpl : (backTo pos (starEach es X.env)).any (·.1) = false := by rfl) : DE X RK W (.Call (.Name x p) (.Name y p2 :: es) [] pos) (dCallR T i r) :=
  pe_weak (pe_callG F hr hgd hg hm hk hb .nil tk (pa_cons (pe_var hN hv hd1 hd2) ha he) hdb he hpl) (by
  rintro σ H Qh ⟨g, S, ρ, Q, E, R, ⟨h0, h⟩, hq, hx⟩
  have hz : σ[i]? = some (some (.ref g.r.p)) := R.cell i _ h0
  refine ⟨_, hz, g, S, ρ, _, E, R, h, fun vs H1 S1 ρ1 xs R1 e1 r1 q1 => ?_, hx⟩
  show spR X.K RK T ((V.ref g.r.p :: vs) ++ []) H1 Qh (WE W σ)
  rw [List.append_nil]
  exact call_r R1 r1 q1 (fun v H' S' ρ' z R' e' r' q' => hq v H' S' ρ' z R' (e1.trans e') r' q') (hx.up e1) mono)
end
end DL
/-! DL4: statements -/
namespace DL
open PySem PySem.Spec PyProof.Rows L2
/-! ### statements -/
@[simp] def dNext : DS := fun _ D ρ => D.nx ρ
@[simp] def dSeq (t u : DS) : DS := fun E D ρ => t E { D with nx := fun ρ1 => u E D ρ1 } ρ
@[simp] def dDrop (d : DT) : DS := fun E D ρ => d E ρ fun _ ρ1 => D.nx ρ1
@[simp] def dRet (d : DT) : DS := fun E D ρ => d E ρ fun x ρ1 => D.rt x ρ1
@[simp] def dRetN : DS := fun _ D ρ => D.rt .non ρ
def dIf (c : DB) (t u : DS) : DS := fun E D ρ => c E ρ fun b ρ1 => match b with
  | true => t E D ρ1
  | false => u E D ρ1
@[simp] def dBrk : DS := fun _ D ρ => D.bk ρ
@[simp] def dCnt : DS := fun _ D ρ => D.ct ρ
@[simp] def dNever : DS := fun _ _ _ => False
/-- x = e: plain data from then on -/
@[simp] def dSet (i : Nat) (d : DT) : DS := fun E D ρ => d E ρ fun x ρ1 => D.nx (ρ1.set i (.dat x))
section
variable {X : Cx} {RK : Res → Prop} {W : WX} {pos : Pos} {e c : Expr} {st : Stmt} {sts : List Stmt} {d : DT} {p : DB} {t u : DS}
theorem ss_nil : DSs X RK W [] dNext := pss_weak pss_nil (by
  rintro D σ H ⟨g, S, ρ, Kd, E, R, h, k1, k2, k3, k4, hx⟩
  exact k1 σ H S ρ R (Same.refl S) h)
theorem ss_cons (h1 : DSt X RK W st t) (h2 : DSs X RK W sts u) : DSs X RK W (st :: sts) (dSeq t u) := pss_weak (pss_cons h1 h2) (by
  rintro D σ H ⟨g, S, ρ, Kd, E, R, h, k1, k2, k3, k4, hx⟩
  refine ⟨g, S, ρ, _, E, R, h, fun σ' H' S' ρ' R' e q => ?_, k2, k3, k4, hx⟩
  exact ⟨g, S', ρ', Kd, E, R', q, fun σ2 H2 S2 ρ2 R2 e2 q2 => k1 σ2 H2 S2 ρ2 R2 (e.trans e2) q2, fun v σ2 H2 S2 ρ2 x R2 e2 r2 q2 => k2 v σ2 H2 S2 ρ2 x R2 (e.trans e2) r2 q2,
    fun σ2 H2 S2 ρ2 R2 e2 q2 => k3 σ2 H2 S2 ρ2 R2 (e.trans e2) q2, fun σ2 H2 S2 ρ2 R2 e2 q2 => k4 σ2 H2 S2 ρ2 R2 (e.trans e2) q2, hx.up e⟩)
theorem ss_one (h1 : DSt X RK W st t) : DSs X RK W [st] t := pss_one h1
theorem st_expr (he : DE X RK W e d) (hs : swapsWith e none pos.line X.env = pure false := by rfl) : DSt X RK W (.Expr e pos) (dDrop d) := ps_weak (ps_expr he hs) (by
  rintro D σ H ⟨g, S, ρ, Kd, E, R, h, k1, k2, k3, k4, hx⟩
  exact ⟨g, S, ρ, _, E, R, h, fun v H1 S1 ρ1 x R1 e1 r1 q1 => k1 σ H1 S1 ρ1 R1 e1 q1, hx⟩)
theorem st_ret (he : DE X RK W e d) : DSt X RK W (.Return (some e) pos) (dRet d) := ps_weak (ps_ret he) (by
  rintro D σ H ⟨g, S, ρ, Kd, E, R, h, k1, k2, k3, k4, hx⟩
  exact ⟨g, S, ρ, _, E, R, h, fun v H1 S1 ρ1 x R1 e1 r1 q1 => k2 v σ H1 S1 ρ1 x R1 e1 r1 q1, hx⟩)
theorem st_retN : DSt X RK W (.Return none pos) dRetN := ps_weak ps_retN (by
  rintro D σ H ⟨g, S, ρ, Kd, E, R, h, k1, k2, k3, k4, hx⟩
  exact k2 .non σ H S ρ .non R (Same.refl S) .non h)
theorem st_if {a b : List Stmt} (hc : DTs X RK W c p) (ha : DSs X RK W a t) (hb : DSs X RK W b u) : DSt X RK W (.If c a b pos) (dIf p t u) := ps_weak (ps_if hc ha hb) (by
  rintro D σ H ⟨g, S, ρ, Kd, E, R, h, k1, k2, k3, k4, hx⟩
  refine ⟨g, S, ρ, _, E, R, h, fun b H' S' ρ' R' e q => ?_, hx⟩
  cases b with
  | true =>
    rw [if_pos rfl]
    exact ⟨g, S', ρ', Kd, E, R', q, fun σ2 H2 S2 ρ2 R2 e2 q2 => k1 σ2 H2 S2 ρ2 R2 (e.trans e2) q2, fun v σ2 H2 S2 ρ2 x R2 e2 r2 q2 => k2 v σ2 H2 S2 ρ2 x R2 (e.trans e2) r2 q2,
      fun σ2 H2 S2 ρ2 R2 e2 q2 => k3 σ2 H2 S2 ρ2 R2 (e.trans e2) q2, fun σ2 H2 S2 ρ2 R2 e2 q2 => k4 σ2 H2 S2 ρ2 R2 (e.trans e2) q2, hx.up e⟩
  | false =>
    rw [if_neg Bool.false_ne_true]
    exact ⟨g, S', ρ', Kd, E, R', q, fun σ2 H2 S2 ρ2 R2 e2 q2 => k1 σ2 H2 S2 ρ2 R2 (e.trans e2) q2, fun v σ2 H2 S2 ρ2 x R2 e2 r2 q2 => k2 v σ2 H2 S2 ρ2 x R2 (e.trans e2) r2 q2,
      fun σ2 H2 S2 ρ2 R2 e2 q2 => k3 σ2 H2 S2 ρ2 R2 (e.trans e2) q2, fun σ2 H2 S2 ρ2 R2 e2 q2 => k4 σ2 H2 S2 ρ2 R2 (e.trans e2) q2, hx.up e⟩)
theorem st_pass : DSt X RK W (.Pass pos) dNext := ps_weak ps_pass (by
  rintro D σ H ⟨g, S, ρ, Kd, E, R, h, k1, k2, k3, k4, hx⟩
  exact k1 σ H S ρ R (Same.refl S) h)
theorem st_break : DSt X RK W (.Break pos) dBrk := ps_weak ps_break (by
  rintro D σ H ⟨g, S, ρ, Kd, E, R, h, k1, k2, k3, k4, hx⟩
  exact k3 σ H S ρ R (Same.refl S) h)
theorem st_continue : DSt X RK W (.Continue pos) dCnt := ps_weak ps_continue (by
  rintro D σ H ⟨g, S, ρ, Kd, E, R, h, k1, k2, k3, k4, hx⟩
  exact k4 σ H S ρ R (Same.refl S) h)
theorem st_never : DSt X RK W st dNever := ps_weak ps_never (by
  rintro D σ H ⟨g, S, ρ, Kd, E, R, h, _⟩
  exact h)
theorem ER.ltN {K : PySem.W.Frag} {RK : Res → Prop} {g : G} {S H : Hp} {σ : L2.St} {ρ : Rho} (R : ER K RK g S H σ ρ) {i : Nat} (hi : i < ρ.length) : i < σ.length := by rw [← R.len]; exact hi
/-- a target of one name -/
theorem set_at {σ : L2.St} {i : Nat} {v : V} (hi : ¬ i < σ.length) : σ.set i (some v) = σ := List.set_eq_of_length_le (by omega)
theorem ER.setD' {K : PySem.W.Frag} {RK : Res → Prop} {g : G} {S H : Hp} {σ : L2.St} {ρ : Rho} (R : ER K RK g S H σ ρ) {i : Nat} {v : V} {x : D} (r : Rep K S v x) : ER K RK g S H (σ.set i (some v)) (ρ.set i (.dat x)) := by
  by_cases hi : i < σ.length
  · exact R.setD r hi
  · rw [set_at hi, List.set_eq_of_length_le (by rw [R.len]; omega)]
    exact R
theorem st_set {x : Str} {p' : Pos} (i : Nat) (hN : X.N.Nodup) (he : DE X RK W e d) (hi : X.N[i]? = some x := by rfl) (hx : Loc X.env.scope x := by first | exact Or.inl rfl | exact Or.inr rfl)
    (hs : swapsWith e (some (.Name x p')) pos.line X.env = pure false := by rfl) (hf : X.fn x = true ∨ X.env.scope.names.lookup x = some .local := by first | exact .inl rfl | exact .inr rfl) :
    DSt X RK W (.Assign [.Name x p'] e pos) (dSet i d) := ps_weak (ps_set hN hi hx he hs hf) (by
  rintro D σ H ⟨g, S, ρ, Kd, E, R, h, k1, k2, k3, k4, hx⟩
  exact ⟨g, S, ρ, _, E, R, h, fun v H1 S1 ρ1 x R1 e1 r1 q1 => k1 _ H1 S1 _ (R1.setD' r1) e1 q1, hx⟩)
end

/-! ### targets -/
abbrev DG := D → Rho → (Rho → Prop) → Prop
abbrev DGs := List D → Rho → (Rho → Prop) → Prop
def liftG (K : PySem.W.Frag) (RK : Res → Prop) (b : DG) : TG := fun v σ H Qh => ∃ g S ρ x Q, ER K RK g S H σ ρ ∧ Rep K S v x ∧ b x ρ Q ∧ ∀ σ' H' S' ρ', ER K RK g S' H' σ' ρ' → Same S S' → Q ρ' → Qh σ' H'
def liftGs (K : PySem.W.Frag) (RK : Res → Prop) (b : DGs) : TGs := fun v σ H Qh => ∃ g S ρ x Q, ER K RK g S H σ ρ ∧ Reps K S v x ∧ b x ρ Q ∧ ∀ σ' H' S' ρ', ER K RK g S' H' σ' ρ' → Same S S' → Q ρ' → Qh σ' H'
variable (X : Cx) (RK : Res → Prop) in
abbrev DGt (e : Expr) (b : DG) : Prop := PG X e (liftG X.K RK b)
variable (X : Cx) (RK : Res → Prop) in
abbrev DGts (e : List Expr) (b : DGs) : Prop := PGs X e (liftGs X.K RK b)
@[simp] def bName (i : Nat) : DG := fun x ρ Q => Q (ρ.set i (.dat x))
@[simp] def bNil : DGs := fun xs ρ Q => xs = [] ∧ Q ρ
@[simp] def bCons (b : DG) (r : DGs) : DGs := fun xs ρ Q => match xs with
  | x :: ys => b x ρ fun ρ1 => r ys ρ1 Q
  | [] => False
@[simp] def bTup (n : Nat) (r : DGs) : DG := fun x ρ Q => match x with
  | .tup xs => xs.length = n ∧ r xs ρ Q
  | _ => False
/-- target = e -/
@[simp] def dAsg (d : DT) (b : DG) : DS := fun E D ρ => d E ρ fun x ρ1 => b x ρ1 D.nx
section
variable {X : Cx} {RK : Res → Prop} {W : WX} {pos : Pos} {e : Expr} {es : List Expr} {b : DG} {r : DGs} {d : DT}
theorem pg_weak {t t' : TG} (h : PG X e t) (i : ∀ v σ H Q, t' v σ H Q → t v σ H Q) : PG X e t' := ⟨fun pins s σ H v u Q I r q => h.run pins s σ H v u Q I r (i v σ H Q q)⟩
theorem pgs_weak {t t' : TGs} (h : PGs X es t) (i : ∀ v σ H Q, t' v σ H Q → t v σ H Q) : PGs X es t' := ⟨fun pins s σ H v u Q I r q => h.run pins s σ H v u Q I r (i v σ H Q q)⟩
theorem tg_name {x : Str} (i : Nat) (hN : X.N.Nodup) (hi : X.N[i]? = some x := by rfl) (hx : Loc X.env.scope x := by first | exact Or.inl rfl | exact Or.inr rfl)
    (hf : X.fn x = true ∨ X.env.scope.names.lookup x = some .local := by first | exact .inl rfl | exact .inr rfl) : DGt X RK (.Name x pos) (bName i) := pg_weak (pg_name hN hi hx hf) (by
  rintro v σ H Qh ⟨g, S, ρ, x, Q, R, r, h, k⟩
  exact k _ _ _ _ (R.setD' r) (Same.refl S) h)
theorem tgs_nil : DGts X RK [] bNil := pgs_weak pgs_nil (by
  rintro v σ H Qh ⟨g, S, ρ, x, Q, R, r, ⟨h1, h2⟩, k⟩
  subst h1
  cases r
  exact ⟨rfl, k σ H S ρ R (Same.refl S) h2⟩)
theorem tgs_cons (h1 : DGt X RK e b) (h2 : DGts X RK es r) (hs : (assignEach (e :: es) X.env).map (·.2) = assign e X.env :: (assignEach es X.env).map (·.2) := by rfl) : DGts X RK (e :: es) (bCons b r) := pgs_weak (pgs_cons h1 h2 hs) (by
  rintro v σ H Qh ⟨g, S, ρ, x, Q, R, rr, h, k⟩
  cases rr with
  | nil => exact h.elim
  | cons r1 r2 =>
    exact ⟨_, _, rfl, g, S, ρ, _, _, R, r1, h, fun σ' H' S' ρ' R' e q => ⟨g, S', ρ', _, Q, R', r2.up e, q, fun σ2 H2 S2 ρ2 R2 e2 q2 => k σ2 H2 S2 ρ2 R2 (e.trans e2) q2⟩⟩)
theorem tg_tup {n : Nat} {j : Nat} (hc : X.calm = true) (h : DGts X RK es r) (hn : (assignEach es X.env).length = n := by rfl) (hst : (assignEach es X.env).findIdx? (·.1) = none := by rfl) : DGt X RK (.Tuple es j pos) (bTup n r) := pg_weak (pg_tup hc h hn hst) (by
  rintro v σ H Qh ⟨g, S, ρ, x, Q, R, rr, h, k⟩
  cases x with
  | tup xs =>
    cases rr with
    | tup h1 h2 => exact ⟨_, _, rfl, (TupAt.up R.sub h1).sq, by rw [h2.length]; exact h.1, g, S, ρ, xs, Q, R, h2, h.2, k⟩
  | _ => exact h.elim)
theorem st_asg {tg : Expr} (he : DE X RK W e d) (hg : DGt X RK tg b) (hs : swapsWithSole [tg] e pos.line X.env = pure false := by rfl) (hw : swappedStores [tg] e X.env = pure none := by rfl)
    (h1 : (assignEach [tg] X.env).map (·.2) = [assign tg X.env] := by rfl) : DSt X RK W (.Assign [tg] e pos) (dAsg d b) := ps_weak (ps_asg he hg hs hw h1) (by
  rintro D σ H ⟨g, S, ρ, Kd, E, R, h, k1, k2, k3, k4, hx⟩
  exact ⟨g, S, ρ, _, E, R, h, fun v H1 S1 ρ1 x R1 e1 r1 q1 => ⟨g, S1, ρ1, x, _, R1, r1, q1, fun σ' H' S' ρ' R' e q => k1 σ' H' S' ρ' R' (e1.trans e) q⟩, hx⟩)
/-- a, b = x, y, plain -/
@[simp] def dPar2 (i j : Nat) (r : DA) : DS := fun E D ρ => r E ρ fun xs ρ1 => match xs with
  | [x, y] => D.nx ((ρ1.set i (.dat x)).set j (.dat y))
  | _ => False
theorem st_par2 {a b' : Expr} {r : DA} {x y : Str} {px py pt : Pos} {kt k2 pt2} (i j : Nat) (hc : X.calm = true) (hN : X.N.Nodup) (ha : DAs X RK W [a, b'] r) (hi : X.N[i]? = some x := by rfl) (hj : X.N[j]? = some y := by rfl) (hij : i ≠ j := by decide)
    (hx : X.env.scope.names.lookup x = some .local := by rfl) (hy : X.env.scope.names.lookup y = some .local := by rfl)
    (hw : swappedStores [.Tuple [.Name x px, .Name y py] kt pt] (.Tuple [a, b'] k2 pt2) X.env = pure (some [x, y]) := by rfl)
    (hs : swapsWithSole [.Tuple [.Name x px, .Name y py] kt pt] (.Tuple [a, b'] k2 pt2) pos.line X.env = pure false := by rfl) :
    DSt X RK W (.Assign [.Tuple [.Name x px, .Name y py] kt pt] (.Tuple [a, b'] k2 pt2) pos) (dPar2 i j r) := ps_weak (ps_par hc hN hi hj hij hx hy ha hw hs) (by
  rintro D σ H ⟨g, S, ρ, Kd, E, R, h, k1, k2, k3, k4, hx⟩
  refine ⟨g, S, ρ, _, E, R, h, fun vs H1 S1 ρ1 xs R1 e1 r1 q1 => ?_, hx⟩
  match xs, q1, r1 with
  | [x, y], q1, .cons r1 (.cons r2 .nil) => exact ⟨_, _, rfl, k1 _ H1 S1 _ ((R1.setD' r1).setD' r2) e1 q1⟩)
end

/-! ### own lists -/
theorem ER.see {K : PySem.W.Frag} {RK : Res → Prop} {g : G} {S H : Hp} {σ : L2.St} {ρ : Rho} (R : ER K RK g S H σ ρ) {p : Addr} {o : HO} (h1 : H p = some o) (h2 : S p = none) (h3 : g.He p = none) (h4 : ∀ i, ownAt ρ i ≠ some p) (hn : NT o := by intro ps z; cases z) :
    ER K RK g (upd S p o) H σ ρ ∧ Same S (upd S p o) := by
  have e : Same S (upd S p o) := same_upd h2
  have hpf : p ∉ g.r.fp := fun q => by
    obtain ⟨o, e⟩ := g.r.there _ _ R.heok p q
    rw [h3] at e; cases e
  refine ⟨R.step e (fun b u q => ?_) R.fr (fun a o q => ?_) (fun a ha => by rw [upd_ne (show a ≠ p from fun z => hpf (z ▸ ha))]; exact R.fpS a ha) (g.r.st e (fun _ _ => rfl) R.res) (fun j q hq => ⟨rfl, ?_⟩) (R.nt.upd hn), e⟩
  · by_cases hb : b = p
    · subst hb; rw [upd_same] at q; cases q; exact h1
    · rw [upd_ne hb] at q; exact R.sub b u q
  · by_cases hb : a = p
    · subst hb; exact .inr h3
    · rw [upd_ne hb] at q; exact .inl q
  · rw [upd_ne (show q ≠ p from fun z => h4 j (z ▸ hq))]; exact (R.ownS hq).1
/-- a fresh list's reading -/
abbrev DF := EK → Rho → (List D → Rho → Prop) → Prop
def liftF (K : PySem.W.Frag) (RK : Res → Prop) (W : WX) (d : DF) : TE := fun σ H Qh => ∃ g S ρ Q E, ER K RK g S H σ ρ ∧ d E ρ Q ∧
  (∀ p xs H' S' ρ' ds, ER K RK g S' H' σ ρ' → Same S S' → H' p = some (.lst xs) → S' p = none → g.He p = none → (∀ i, ownAt ρ' i ≠ some p) → Reps K S' xs ds → Q ds ρ' → Qh (.ref p) H') ∧ ExC K RK W g S E
variable (X : Cx) (RK : Res → Prop) (W : WX) in
abbrev DFr (e : Expr) (d : DF) : Prop := PE X e (liftF X.K RK W d)
@[simp] def dOf (d : DF) : DT := fun E ρ Q => d E ρ fun ds ρ1 => Q (.lst ds) ρ1
/-- x = a fresh list, which is changed later on -/
@[simp] def dOwn (i : Nat) (d : DF) : DS := fun E D ρ => d E ρ fun ds ρ1 => ∀ p, D.nx (ρ1.set i (.own p ds))
section
variable {X : Cx} {RK : Res → Prop} {W : WX} {pos : Pos} {e : Expr} {es : List Expr} {d : DF} {r : DA}
theorem de_of (h : DFr X RK W e d) : DE X RK W e (dOf d) := pe_weak h (by
  rintro σ H Qh ⟨g, S, ρ, Q, E, R, h, hq, hx⟩
  refine ⟨g, S, ρ, _, E, R, h, fun p xs H1 S1 ρ1 ds R1 e1 h1 h2 h3 h4 r1 q1 => ?_, hx⟩
  obtain ⟨R2, e2⟩ := R1.see h1 h2 h3 h4
  exact hq _ H1 _ ρ1 _ R2 (e1.trans e2) (.lst upd_same (r1.up e2)) q1)
theorem ER.own {K : PySem.W.Frag} {RK : Res → Prop} {g : G} {S H : Hp} {σ : L2.St} {ρ : Rho} (R : ER K RK g S H σ ρ) {i : Nat} {p : Addr} {xs : List V} {ds : List D} (h1 : H p = some (.lst xs)) (h2 : S p = none) (h3 : g.He p = none) (h4 : ∀ i, ownAt ρ i ≠ some p) (r : Reps K S xs ds) :
    ER K RK g S H (σ.set i (some (.ref p))) (ρ.set i (.own p ds)) := by
  by_cases hi : i < σ.length
  · exact R.setOwn (p := p) hi rfl h2 h3 (fun j _ => h4 j) R.sub (fun b hb => .inl rfl) (by simp) (fun j hj => List.getElem?_set_ne (Ne.symm hj)) ⟨List.getElem?_set_self hi, h2, h3, xs, h1, r⟩
  · rw [set_at hi, List.set_eq_of_length_le (by rw [R.len]; omega)]
    exact R
theorem st_own {x : Str} {p' : Pos} (i : Nat) (hN : X.N.Nodup) (he : DFr X RK W e d) (hi : X.N[i]? = some x := by rfl) (hx : Loc X.env.scope x := by first | exact Or.inl rfl | exact Or.inr rfl)
    (hs : swapsWith e (some (.Name x p')) pos.line X.env = pure false := by rfl) (hf : X.fn x = true ∨ X.env.scope.names.lookup x = some .local := by first | exact .inl rfl | exact .inr rfl) :
    DSt X RK W (.Assign [.Name x p'] e pos) (dOwn i d) := ps_weak (ps_set hN hi hx he hs hf) (by
  rintro D σ H ⟨g, S, ρ, Kd, E, R, h, k1, k2, k3, k4, hx⟩
  exact ⟨g, S, ρ, _, E, R, h, fun p xs H1 S1 ρ1 ds R1 e1 h1 h2 h3 h4 r1 q1 => k1 _ H1 S1 _ (R1.own h1 h2 h3 h4 r1) e1 (q1 p), hx⟩)
/-- [a, b, ..], fresh -/
@[simp] def dfLst (r : DA) : DF := fun E ρ Q => r E ρ fun xs ρ1 => xs.length ≤ sizeLine ∧ Q xs ρ1
theorem df_lst (h : DAs X RK W es r) : DFr X RK W (.List es pos) (dfLst r) := pe_weak (pe_lst h) (by
  rintro σ H Qh ⟨g, S, ρ, Q, E, R, h, hq, hx⟩
  refine ⟨g, S, ρ, _, E, R, h, fun vs H1 S1 ρ1 xs R1 e1 r1 q1 => ⟨by rw [r1.length]; exact q1.1, fun p hp => ?_⟩, hx⟩
  obtain ⟨f1, f2, f3, f4⟩ := R1.fresh hp
  exact hq p vs _ S1 ρ1 xs (R1.alloc0 hp) e1 upd_same f2 f1 f4 r1 q1.2)
/-- the own list at the name i is another one from now on -/
theorem ER.put {K : PySem.W.Frag} {RK : Res → Prop} {g : G} {S H : Hp} {σ : L2.St} {ρ : Rho} (R : ER K RK g S H σ ρ) {i : Nat} {p : Addr} {ds es : List D} {ys : List V} (h : ρ[i]? = some (.own p ds)) (r : Reps K S ys es) :
    ER K RK g S (upd H p (.lst ys)) σ (ρ.set i (.own p es)) := by
  obtain ⟨h1, h2, h3, xs, h4, h5⟩ := R.cell i _ h
  have hi : i < σ.length := R.lt h
  refine R.setOwn (p := p) hi rfl h2 h3 (fun j hj z => R.apart j i p p z (own_of h rfl) hj rfl) (fun b o q => ?_) (fun b hb => .inl (upd_ne hb)) rfl (fun j _ => rfl) ⟨h1, h2, h3, ys, upd_same, r⟩
  by_cases hb : b = p
  · subst hb; rw [h2] at q; cases q
  · rw [upd_ne hb]; exact R.sub b o q
/-- x.append(e) -/
def dApp (i : Nat) (d : DT) : DT := fun E ρ Q => (∃ p ds, ρ[i]? = some (.own p ds)) ∧ d E ρ fun y ρ1 => match ρ1[i]? with
  | some (.own p ds) => ds.length < sizeLine ∧ Q .non (ρ1.set i (.own p (ds ++ [y])))
  | _ => False
theorem de_app {x : Str} {p1 p2 p3 : Pos} {d : DT} (i : Nat) (he : DE X RK W e d) (hN : X.N[i]? = some x := by rfl) (hv : Vis X.env.scope x := by first | exact Or.inl rfl | exact Or.inr (Or.inl rfl) | exact Or.inr (Or.inr rfl)) (hd : (x == ("__debug__" : Str)) = false := by decide)
    (hcd : (x == ("__classdict__" : Str)) = false := by decide) (hs : starEach (e :: []) X.env = (false, eval e X.env) :: starEach [] X.env := by rfl)
    (hm : PE X (.Call (.Attribute (.Name x p1) "append" p2) [e] [] p3) (fun σ H Q => tVar i σ H fun xv H1 => tyV X.K "list" xv H1 ∧ tCons (liftE X.K RK W d) tNil σ H1 fun vs H2 => rAppend xv vs H2 Q)) :
    DE X RK W (.Call (.Attribute (.Name x p1) "append" p2) [e] [] p3) (dApp i d) := pe_weak hm (by
  rintro σ H Qh ⟨g, S, ρ, Q, E, R, ⟨⟨p, ds, h0⟩, h⟩, hq, hx⟩
  obtain ⟨z1, z2, z3, xs, z4, z5⟩ := R.cell i _ h0
  refine ⟨_, z1, .inl ⟨rfl, _, SqL.of z4⟩, g, S, ρ, _, E, R, h, fun v H1 S1 ρ1 y R1 e1 r1 q1 => ?_, hx⟩
  cases w : ρ1[i]? with
  | none => rw [w] at q1; exact q1.elim
  | some c =>
    rw [w] at q1
    cases c with
    | own p' ds' =>
      obtain ⟨y1, y2, y3, xs', y4, y5⟩ := R1.cell i _ w
      have ep : p' = p := by rw [z1] at y1; cases y1; rfl
      subst ep
      refine ⟨p', xs', v, rfl, rfl, y4, by rw [y5.length]; exact q1.1, ?_⟩
      exact hq _ _ S1 _ _ (R1.put w (y5.append (.one r1))) e1 .non q1.2
    | _ => exact q1.elim)
end
end DL
/-! DL5: own lists changed in place; looks at them; built-ins -/
namespace DL
open PySem PySem.Spec PyProof.Rows L2

section
variable {X : Cx} {RK : Res → Prop} {W : WX} {pos : Pos} {e : Expr} {es : List Expr} {d : DT} {r : DA} {x : Str}
/-! ### changes -/
theorem de_append {p1 p2 p3 : Pos} (i : Nat) (he : DE X RK W e d) (hN : X.N[i]? = some x := by rfl) (hv : Vis X.env.scope x := by first | exact Or.inl rfl | exact Or.inr (Or.inl rfl) | exact Or.inr (Or.inr rfl)) (hd : (x == ("__debug__" : Str)) = false := by decide)
    (hcd : (x == ("__classdict__" : Str)) = false := by decide) (hs : starEach (e :: []) X.env = (false, eval e X.env) :: starEach [] X.env := by rfl)
    (h1 : attributeBase (.Name x p1) "append" X.env (eval (.Name x p1) X.env) = eval (.Name x p1) X.env := by rfl) (h2 : (p2.endLine == p3.line) = true := by rfl)
    (h3 : ((backTo p3 (starEach [e] X.env)).all (fun x => !x.1) && (backToKw p3 (keywordEach [] X.env)).all (fun x => x.1.isSome) && decide ([e].length + ([] : List Keyword).length + (if ([] : List Keyword).isEmpty then 0 else 1) < 30)) = true := by rfl) :
    DE X RK W (.Call (.Attribute (.Name x p1) "append" p2) [e] [] p3) (dApp i d) :=
  de_app i he hN hv hd hcd hs (pe_bm PySem.F.plainAttrs_list PySem.F.slot_list_append PySem.F.type_list_append mt_append (pe_var hN hv hd hcd) (pa_cons he pa_nil hs) h1 h3 h2 hs (by rfl))
/-- x.pop(e) -/
def dPopAt (i : Nat) (d : DT) : DT := fun E ρ Q => (∃ p ds, ρ[i]? = some (.own p ds)) ∧ d E ρ fun y ρ1 => match ρ1[i]?, y with
  | some (.own p ds), .int k => ∃ j z, -(2 ^ 63) ≤ k ∧ k < 2 ^ 63 ∧ seqIndex? k ds.length = some j ∧ ds[j]? = some z ∧ Q z (ρ1.set i (.own p (ds.eraseIdx j)))
  | _, _ => False
theorem de_popAt {p1 p2 p3 : Pos} (i : Nat) (he : DE X RK W e d) (hN : X.N[i]? = some x := by rfl) (hv : Vis X.env.scope x := by first | exact Or.inl rfl | exact Or.inr (Or.inl rfl) | exact Or.inr (Or.inr rfl)) (hd : (x == ("__debug__" : Str)) = false := by decide)
    (hcd : (x == ("__classdict__" : Str)) = false := by decide) (hs : starEach (e :: []) X.env = (false, eval e X.env) :: starEach [] X.env := by rfl)
    (h1 : attributeBase (.Name x p1) "pop" X.env (eval (.Name x p1) X.env) = eval (.Name x p1) X.env := by rfl) (h2 : (p2.endLine == p3.line) = true := by rfl)
    (h3 : ((backTo p3 (starEach [e] X.env)).all (fun x => !x.1) && (backToKw p3 (keywordEach [] X.env)).all (fun x => x.1.isSome) && decide ([e].length + ([] : List Keyword).length + (if ([] : List Keyword).isEmpty then 0 else 1) < 30)) = true := by rfl) :
    DE X RK W (.Call (.Attribute (.Name x p1) "pop" p2) [e] [] p3) (dPopAt i d) :=
  pe_weak (pe_bm PySem.F.plainAttrs_list PySem.F.slot_list_pop PySem.F.type_list_pop mt_popAt (pe_var hN hv hd hcd) (pa_cons he pa_nil hs) h1 h3 h2 hs (by rfl)) (by
  rintro σ H Qh ⟨g, S, ρ, Q, E, R, ⟨⟨p, ds, h0⟩, h⟩, hq, hx⟩
  obtain ⟨z1, z2, z3, xs, z4, z5⟩ := R.cell i _ h0
  refine ⟨_, z1, .inl ⟨rfl, _, SqL.of z4⟩, g, S, ρ, _, E, R, h, fun v H1 S1 ρ1 y R1 e1 r1 q1 => ?_, hx⟩
  cases w : ρ1[i]? with
  | none => simp only [w] at q1
  | some c =>
    cases c with
    | own p' ds' =>
      cases y with
      | int k =>
        simp only [w] at q1
        cases r1
        obtain ⟨y1, y2, y3, xs', y4, y5⟩ := R1.cell i _ w
        have ep : p' = p := by rw [z1] at y1; cases y1; rfl
        subst ep
        obtain ⟨j, z, k1, k2, k3, k4, k5⟩ := q1
        obtain ⟨u, k6, k7⟩ := y5.get' k4
        refine ⟨p', xs', k, j, u, rfl, rfl, y4, k1, k2, by rw [y5.length]; exact k3, k6, ?_⟩
        exact hq _ _ S1 _ _ (R1.put w (y5.erase j)) e1 k7 k5
      | _ => simp only [w] at q1
    | _ => simp only [w] at q1)
/-- x.pop() -/
def dPop (i : Nat) : DT := fun E ρ Q => match ρ[i]? with
  | some (.own p ds) => ∃ z, ds[ds.length - 1]? = some z ∧ Q z (ρ.set i (.own p ds.dropLast))
  | _ => False
theorem Reps.dropLast {K : PySem.W.Frag} {S : Hp} {xs : List V} {ds : List D} (h : Reps K S xs ds) : Reps K S xs.dropLast ds.dropLast := by
  rw [List.dropLast_eq_take, List.dropLast_eq_take, h.length]; exact h.take _
theorem de_pop {p1 p2 p3 : Pos} (i : Nat) (hN : X.N[i]? = some x := by rfl) (hv : Vis X.env.scope x := by first | exact Or.inl rfl | exact Or.inr (Or.inl rfl) | exact Or.inr (Or.inr rfl)) (hd : (x == ("__debug__" : Str)) = false := by decide)
    (hcd : (x == ("__classdict__" : Str)) = false := by decide)
    (h1 : attributeBase (.Name x p1) "pop" X.env (eval (.Name x p1) X.env) = eval (.Name x p1) X.env := by rfl) (h2 : (p2.endLine == p3.line) = true := by rfl) :
    DE X RK W (.Call (.Attribute (.Name x p1) "pop" p2) [] [] p3) (dPop i) :=
  pe_weak (pe_bm0 PySem.F.plainAttrs_list PySem.F.slot_list_pop PySem.F.type_list_pop mt_pop (pe_var hN hv hd hcd) h1 h2) (by
  rintro σ H Qh ⟨g, S, ρ, Q, E, R, h, hq, hx⟩
  unfold dPop at h
  cases w : ρ[i]? with
  | none => simp only [w] at h
  | some c =>
    cases c with
    | own p ds =>
      simp only [w] at h
      obtain ⟨z1, z2, z3, xs, z4, z5⟩ := R.cell i _ w
      obtain ⟨z, k1, k2⟩ := h
      obtain ⟨u, k3, k4⟩ := z5.get' k1
      refine ⟨_, z1, .inl ⟨rfl, _, SqL.of z4⟩, p, xs, u, rfl, rfl, z4, by rw [z5.length]; exact k3, ?_⟩
      exact hq _ _ S _ _ (R.put w z5.dropLast) (Same.refl S) k4 k2
    | _ => simp only [w] at h)
/-- x[k] = e -/
def dStore (i : Nat) (dk de : DT) : DS := fun E D ρ => de E ρ fun y ρ1 => (∃ p ds, ρ1[i]? = some (.own p ds)) ∧ dk E ρ1 fun k ρ2 => match ρ2[i]?, k with
  | some (.own p ds), .int k => ∃ j, ixN ds.length k = some j ∧ D.nx (ρ2.set i (.own p (ds.set j y)))
  | _, _ => False
theorem st_store {p1 p2 : Pos} {ke : Expr} {dk : DT} (i : Nat) (hk : DE X RK W ke dk) (he : DE X RK W e d) (hN : X.N[i]? = some x := by rfl) (hv : Vis X.env.scope x := by first | exact Or.inl rfl | exact Or.inr (Or.inl rfl) | exact Or.inr (Or.inr rfl)) (hd : (x == ("__debug__" : Str)) = false := by decide)
    (hcd : (x == ("__classdict__" : Str)) = false := by decide)
    (ha : ∀ v, assign (.Subscript (.Name x p1) ke p2) X.env v = (do
      let ov ← holding [v] (eval (.Name x p1) X.env)
      let iv ← holding [v, ov] (eval ke X.env)
      standAt p2
      holding [v, ov, iv] (setItem ov iv v)
      release [v, ov, iv] []) := by intro _; rfl)
    (hs : swapsWithSole [.Subscript (.Name x p1) ke p2] e pos.line X.env = pure false := by rfl) (hw : swappedStores [.Subscript (.Name x p1) ke p2] e X.env = pure none := by rfl)
    (h1 : (assignEach [.Subscript (.Name x p1) ke p2] X.env).map (·.2) = [assign (.Subscript (.Name x p1) ke p2) X.env] := by rfl) :
    DSt X RK W (.Assign [.Subscript (.Name x p1) ke p2] e pos) (dStore i dk d) :=
  ps_weak (ps_asg he (pg_sub (pe_var hN hv hd hcd) hk set_list ha) hs hw h1) (by
  rintro D σ H ⟨g, S, ρ, Kd, E, R, h, k1, k2, k3, k4, hx⟩
  refine ⟨g, S, ρ, _, E, R, h, fun v H1 S1 ρ1 y R1 e1 r1 q1 => ?_, hx⟩
  obtain ⟨⟨p, ds, h0⟩, q1⟩ := q1
  obtain ⟨z1, z2, z3, xs, z4, z5⟩ := R1.cell i _ h0
  refine ⟨_, z1, g, S1, ρ1, _, E, R1, q1, fun u H2 S2 ρ2 k R2 e2 r2 q2 => ?_, hx.up e1⟩
  cases w : ρ2[i]? with
  | none => simp only [w] at q2
  | some c =>
    cases c with
    | own p' ds' =>
      cases k with
      | int k =>
        simp only [w] at q2
        cases r2
        obtain ⟨y1, y2, y3, xs', y4, y5⟩ := R2.cell i _ w
        have ep : p' = p := by rw [z1] at y1; cases y1; rfl
        subst ep
        obtain ⟨j, k3, k5⟩ := q2
        refine ⟨p', xs', k, j, rfl, rfl, y4, by rw [y5.length]; exact k3, ?_⟩
        exact k1 _ _ S2 _ (R2.put w (Reps.set (r1.up e2) j y5)) (e1.trans e2) k5
      | _ => simp only [w] at q2
    | _ => simp only [w] at q2)
theorem get_list : PGet X (fun o k H Q => ∃ p xs i v, o = .ref p ∧ k = .int i ∧ SqL X.K H p xs ∧ atI xs i = some v ∧ Q v H) := by
  rintro pins s σ H o k ov kv Q I ro rk ⟨p, xs, i, z, rfl, rfl, hq, he, q⟩
  cases ro
  obtain ⟨t, rfl⟩ := rk
  obtain ⟨its, r, pl, hz⟩ := I.list hq
  obtain ⟨j, h1, h2, h3, h4, h5⟩ := atI_get he
  obtain ⟨w, ew, rw'⟩ := r.get h2
  have hl := r.length
  have hn := line63
  have fin : EP X pins σ Q w s := ⟨z, H, I, rw', q⟩
  by_cases h0 : 0 ≤ i
  · have hj : i.toNat = j := by
      rw [seqIndex_of h0 h5] at h1
      exact Option.some.inj h1
    exact wpAny_getItem_list pl.isList h0 (by omega) (by rw [hj]; simpa using ew) fin
  · have hj : (i + (its.toArray.size : Int)).toNat = j := by
      rw [seqIndex_neg (by omega) h4] at h1
      rw [List.size_toArray, ← hl]
      exact Option.some.inj h1
    exact wpAny_getItem_list_neg pl.isList (by omega) (by rw [List.size_toArray]; omega) (by omega) (by rw [hj]; simpa using ew) fin
/-- x[k] op= e -/
def dAugStore (f : D → D → (D → Prop) → Prop) (i : Nat) (dk de : DT) : DS := fun E D ρ => (∃ p ds, ρ[i]? = some (.own p ds)) ∧ dk E ρ fun k ρ1 => match ρ1[i]?, k with
  | some (.own p ds), .int k => ∃ j z, ixN ds.length k = some j ∧ ds[j]? = some z ∧ de E ρ1 fun y ρ2 => f z y fun w => match ρ2[i]? with
    | some (.own p' ds') => ∃ j', ixN ds'.length k = some j' ∧ D.nx (ρ2.set i (.own p' (ds'.set j' w)))
    | _ => False
  | _, _ => False
theorem st_augStore {p1 p2 : Pos} {ke : Expr} {dk : DT} {op : Operator} {ro : R2} {f : D → D → (D → Prop) → Prop} (i : Nat) (ho : PIp X op ro) (hf : OpD X.K ro f) (hk : DE X RK W ke dk) (he : DE X RK W e d) (hN : X.N[i]? = some x := by rfl)
    (hv : Vis X.env.scope x := by first | exact Or.inl rfl | exact Or.inr (Or.inl rfl) | exact Or.inr (Or.inr rfl)) (hd : (x == ("__debug__" : Str)) = false := by decide) (hcd : (x == ("__classdict__" : Str)) = false := by decide)
    (ha : ∀ ov iv new, augStore ke ov iv new = (do holding [new, ov, iv] (setItem ov iv new); release [new, ov, iv] []; pure .next) := by intros; rfl) :
    DSt X RK W (.AugAssign (.Subscript (.Name x p1) ke p2) op e pos) (dAugStore f i dk d) :=
  ps_weak (ps_augS (pe_var hN hv hd hcd) hk get_list he ho set_list ha) (by
  rintro D σ H ⟨g, S, ρ, Kd, E, R, ⟨⟨p, ds, h0⟩, h⟩, k1, k2, k3, k4, hx⟩
  obtain ⟨z1, z2, z3, xs, z4, z5⟩ := R.cell i _ h0
  refine ⟨_, z1, g, S, ρ, _, E, R, h, fun u H1 S1 ρ1 k R1 e1 r1 q1 => ?_, hx⟩
  cases w : ρ1[i]? with
  | none => simp only [w] at q1
  | some c =>
    cases c with
    | own p' ds' =>
      cases k with
      | int k =>
        simp only [w] at q1
        cases r1
        obtain ⟨y1, y2, y3, xs', y4, y5⟩ := R1.cell i _ w
        have ep : p' = p := by rw [z1] at y1; cases y1; rfl
        subst ep
        obtain ⟨j, z, k5, k6, k7⟩ := q1
        obtain ⟨vz, a1, a2⟩ := y5.get' k6
        refine ⟨p', xs', k, vz, rfl, rfl, SqL.of y4, ?_, g, S1, ρ1, _, E, R1, k7, fun v H2 S2 ρ2 y R2 e2 r2 q2 => ?_, hx.up e1⟩
        · unfold atI; rw [y5.length, k5]; exact a1
        · refine hf RK g S2 H2 σ ρ2 z y vz v _ _ R2 (a2.up e2) r2 q2 fun wv H3 S3 wd R3 e3 r3 q3 => ?_
          cases w2 : ρ2[i]? with
          | none => simp only [w2] at q3
          | some c2 =>
            cases c2 with
            | own p2' ds2 =>
              simp only [w2] at q3
              obtain ⟨b1, b2, b3, xs2, b4, b5⟩ := R3.cell i _ w2
              have ep2 : p2' = p' := by rw [y1] at b1; cases b1; rfl
              subst ep2
              obtain ⟨j', k8, k9⟩ := q3
              refine ⟨p2', xs2, k, j', rfl, rfl, b4, by rw [b5.length]; exact k8, ?_⟩
              exact k1 _ _ S3 _ (R3.put w2 (Reps.set r3 j' b5)) ((e1.trans e2).trans e3) k9
            | _ => simp only [w2] at q3
      | _ => simp only [w] at q1
    | _ => simp only [w] at q1)
/-- x op= e -/
def dAug (f : D → D → (D → Prop) → Prop) (i : Nat) (d : DT) : DS := fun E D ρ => match ρ[i]? with
  | some (.dat z) => d E ρ fun y ρ1 => f z y fun w => D.nx (ρ1.set i (.dat w))
  | _ => False
theorem st_aug {p1 : Pos} {op : Operator} {ro : R2} {f : D → D → (D → Prop) → Prop} (i : Nat) (hN : X.N.Nodup) (ho : PIp X op ro) (hf : OpD X.K ro f) (he : DE X RK W e d) (hi : X.N[i]? = some x := by rfl) (hx : Loc X.env.scope x := by first | exact Or.inl rfl | exact Or.inr rfl)
    (hfn : X.fn x = true ∨ X.env.scope.names.lookup x = some .local := by first | exact .inl rfl | exact .inr rfl) : DSt X RK W (.AugAssign (.Name x p1) op e pos) (dAug f i d) :=
  ps_weak (ps_aug hN hi hx he ho hfn) (by
  rintro D σ H ⟨g, S, ρ, Kd, E, R, h, k1, k2, k3, k4, hx⟩
  unfold dAug at h
  cases w : ρ[i]? with
  | none => simp only [w] at h
  | some c =>
    cases c with
    | dat z =>
      simp only [w] at h
      obtain ⟨vz, a1, a2⟩ := R.cell i _ w
      refine ⟨vz, a1, g, S, ρ, _, E, R, h, fun v H1 S1 ρ1 y R1 e1 r1 q1 => ?_, hx⟩
      exact hf RK g S1 H1 σ ρ1 z y vz v _ _ R1 (a2.up e1) r1 q1 fun wv H3 S3 wd R3 e3 r3 q3 => k1 _ H3 S3 _ (R3.setD' r3) (e1.trans e3) q3
    | _ => simp only [w] at h)
end
end DL
/-! DL6: operations on data -/
namespace DL
open PySem PySem.Spec PyProof.Rows L2

/-! ### equality -/
mutual
def D.eqb : D → D → Bool
  | .non, .non => true
  | .bl a, .bl b => a == b
  | .bl a, .int j => (if a then 1 else 0) == j
  | .int i, .bl b => i == (if b then 1 else 0)
  | .int i, .int j => i == j
  | .str x, .str y => x == y
  | .lst xs, .lst ys => D.eqbs xs ys
  | .tup xs, .tup ys => D.eqbs xs ys
  | _, _ => false
def D.eqbs : List D → List D → Bool
  | [], [] => true
  | x :: xs, y :: ys => D.eqb x y && D.eqbs xs ys
  | _, _ => false
end
mutual
/-- data all the way down, of signs that there are -/
def D.plain : D → Bool
  | .str x => PyData.strOk x
  | .lst xs => D.plains xs
  | .tup xs => D.plains xs
  | .dct _ _ => false
  | .raw _ => false
  | .fn _ => false
  | .non => true
  | .bl _ => true
  | .int _ => true
def D.plains : List D → Bool
  | [] => true
  | x :: xs => D.plain x && D.plains xs
end
mutual
def D.dep : D → Nat
  | .lst xs => D.deps xs + 1
  | .tup xs => D.deps xs + 1
  | _ => 0
def D.deps : List D → Nat
  | [] => 0
  | x :: xs => max (D.dep x) (D.deps xs)
end
mutual
def D.py : D → PyData
  | .non => .none
  | .bl b => .bool b
  | .int i => .int i
  | .str x => .str x
  | .lst xs => .list (D.pys xs)
  | .tup xs => .tuple (D.pys xs)
  | .dct _ _ => .none
  | .raw _ => .none
  | .fn _ => .none
def D.pys : List D → List PyData
  | [] => []
  | x :: xs => D.py x :: D.pys xs
end
mutual
theorem D.eqb_py : ∀ x y : D, x.plain = true → y.plain = true → PyData.eqv x.py y.py = D.eqb x y
  | .non, y, _, hy => by cases y <;> first | (simp only [D.py, PyData.eqv, D.eqb]; done) | (simp only [D.plain] at hy; cases hy)
  | .bl a, y, _, hy => by cases y <;> first | (simp only [D.py, PyData.eqv, D.eqb]; done) | (simp only [D.plain] at hy; cases hy)
  | .int a, y, _, hy => by cases y <;> first | (simp only [D.py, PyData.eqv, D.eqb]; done) | (simp only [D.plain] at hy; cases hy)
  | .str a, y, _, hy => by cases y <;> first | (simp only [D.py, PyData.eqv, D.eqb]; done) | (simp only [D.plain] at hy; cases hy)
  | .lst xs, y, hx, hy => by
    cases y with
    | lst ys => simp only [D.py, PyData.eqv, D.eqb]; exact D.eqbs_py xs ys (by simpa only [D.plain] using hx) (by simpa only [D.plain] using hy)
    | dct _ _ => simp only [D.plain] at hy; cases hy
    | raw _ => simp only [D.plain] at hy; cases hy
    | fn _ => simp only [D.plain] at hy; cases hy
    | _ => simp only [D.py, PyData.eqv, D.eqb]
  | .tup xs, y, hx, hy => by
    cases y with
    | tup ys => simp only [D.py, PyData.eqv, D.eqb]; exact D.eqbs_py xs ys (by simpa only [D.plain] using hx) (by simpa only [D.plain] using hy)
    | dct _ _ => simp only [D.plain] at hy; cases hy
    | raw _ => simp only [D.plain] at hy; cases hy
    | fn _ => simp only [D.plain] at hy; cases hy
    | _ => simp only [D.py, PyData.eqv, D.eqb]
  | .dct _ _, _, hx, _ => by simp only [D.plain] at hx; cases hx
  | .raw _, _, hx, _ => by simp only [D.plain] at hx; cases hx
  | .fn _, _, hx, _ => by simp only [D.plain] at hx; cases hx
theorem D.eqbs_py : ∀ xs ys : List D, D.plains xs = true → D.plains ys = true → PyData.eqvAll (D.pys xs) (D.pys ys) = D.eqbs xs ys
  | [], [], _, _ => by simp only [D.pys, PyData.eqvAll, D.eqbs]
  | [], _ :: _, _, _ => by simp only [D.pys, PyData.eqvAll, D.eqbs]
  | _ :: _, [], _, _ => by simp only [D.pys, PyData.eqvAll, D.eqbs]
  | x :: xs, y :: ys, hx, hy => by
    simp only [D.plains, Bool.and_eq_true] at hx hy
    simp only [D.pys, PyData.eqvAll, D.eqbs]
    rw [D.eqb_py x y hx.1 hy.1, D.eqbs_py xs ys hx.2 hy.2]
end
mutual
theorem D.dep_py : ∀ x : D, x.py.depth = x.dep
  | .lst xs => by simp only [D.py, PyData.depth, D.dep]; rw [D.deps_py xs]
  | .tup xs => by simp only [D.py, PyData.depth, D.dep]; rw [D.deps_py xs]
  | .non => by simp only [D.py, PyData.depth, D.dep]
  | .bl _ => by simp only [D.py, PyData.depth, D.dep]
  | .int _ => by simp only [D.py, PyData.depth, D.dep]
  | .str _ => by simp only [D.py, PyData.depth, D.dep]
  | .dct _ _ => by simp only [D.py, PyData.depth, D.dep]
  | .raw _ => by simp only [D.py, PyData.depth, D.dep]
  | .fn _ => by simp only [D.py, PyData.depth, D.dep]
theorem D.deps_py : ∀ xs : List D, PyData.depthAll (D.pys xs) = D.deps xs
  | [] => by simp only [D.pys, PyData.depthAll, D.deps]
  | x :: xs => by simp only [D.pys, PyData.depthAll, D.deps]; rw [D.dep_py x, D.deps_py xs]
end
mutual
theorem D.lay_py : ∀ x : D, x.plain = true → x.py.canLay0 = true
  | .lst xs, h => by simp only [D.py, PyData.canLay0]; exact D.lays_py xs (by simpa only [D.plain] using h)
  | .tup xs, h => by simp only [D.py, PyData.canLay0]; exact D.lays_py xs (by simpa only [D.plain] using h)
  | .non, _ => by simp only [D.py, PyData.canLay0]
  | .bl _, _ => by simp only [D.py, PyData.canLay0]
  | .int _, _ => by simp only [D.py, PyData.canLay0]
  | .str x, h => by simp only [D.py, PyData.canLay0]; simpa only [D.plain] using h
  | .dct _ _, h => by simp only [D.plain] at h; cases h
  | .raw _, h => by simp only [D.plain] at h; cases h
  | .fn _, h => by simp only [D.plain] at h; cases h
theorem D.lays_py : ∀ xs : List D, D.plains xs = true → PyData.canLayAll0 (D.pys xs) = true
  | [], _ => by simp only [D.pys, PyData.canLayAll0]
  | x :: xs, h => by
    simp only [D.plains, Bool.and_eq_true] at h
    simp only [D.pys, PyData.canLayAll0]
    rw [D.lay_py x h.1, D.lays_py xs h.2]; rfl
end
theorem D.shaped_py {x : D} (h : x.plain = true) (hd : x.dep ≤ 64) : SeqAt.shaped x.py = true := by
  unfold SeqAt.shaped
  rw [D.lay_py x h, D.dep_py x, decide_eq_true hd]; rfl
mutual
theorem Rep.dp {K : PySem.W.Frag} {S : Hp} : ∀ (x : D) (v : V), x.plain = true → Rep K S v x → Dp K S v x.py
  | .non, _, _, h => by cases h; simp only [D.py]; exact .non
  | .bl b, _, _, h => by cases h; simp only [D.py]; exact .bl b
  | .int i, _, _, h => by cases h; simp only [D.py]; exact .int i
  | .str x, _, _, h => by cases h; simp only [D.py]; exact .str x
  | .lst xs, _, p, h => by
    cases h with
    | lst h1 h2 => simp only [D.py]; exact .lst (SqL.of h1) (Reps.dps xs _ (by simpa only [D.plain] using p) h2)
  | .tup xs, _, p, h => by
    cases h with
    | tup h1 h2 => simp only [D.py]; exact .tup h1.sq (Reps.dps xs _ (by simpa only [D.plain] using p) h2)
  | .dct _ _, _, p, _ => by simp only [D.plain] at p; cases p
  | .raw _, _, p, _ => by simp only [D.plain] at p; cases p
  | .fn _, _, p, _ => by simp only [D.plain] at p; cases p
theorem Reps.dps {K : PySem.W.Frag} {S : Hp} : ∀ (xs : List D) (vs : List V), D.plains xs = true → Reps K S vs xs → DpAll K S vs (D.pys xs)
  | [], _, _, h => by cases h; simp only [D.pys]; exact .nil
  | x :: xs, _, p, h => by
    simp only [D.plains, Bool.and_eq_true] at p
    cases h with
    | cons h1 h2 => simp only [D.pys]; exact .cons (Rep.dp x _ p.1 h1) (Reps.dps xs _ p.2 h2)
end
@[simp] def fEq (x y : D) (k : D → Prop) : Prop := x.plain = true ∧ y.plain = true ∧ x.dep ≤ 64 ∧ y.dep ≤ 64 ∧ k (.bl (D.eqb x y))
@[simp] def fNe (x y : D) (k : D → Prop) : Prop := x.plain = true ∧ y.plain = true ∧ x.dep ≤ 64 ∧ y.dep ≤ 64 ∧ k (.bl (!D.eqb x y))
section
variable {X : Cx}
theorem opd_eq : OpD X.K (rEqD X.K) fEq := by
  rintro RK g S H σ ρ x y v u k Qh R rx ry ⟨p1, p2, d1, d2, h⟩ hq
  refine ⟨x.py, y.py, Rep.dp x v p1 (rx.up R.sub), Rep.dp y u p2 (ry.up R.sub), D.shaped_py p1 d1, D.shaped_py p2 d2, ?_⟩
  rw [D.eqb_py x y p1 p2]
  exact hq _ H S _ R (Same.refl S) (.bl _) h
theorem opd_ne : OpD X.K (rNeD X.K) fNe := by
  rintro RK g S H σ ρ x y v u k Qh R rx ry ⟨p1, p2, d1, d2, h⟩ hq
  refine ⟨x.py, y.py, Rep.dp x v p1 (rx.up R.sub), Rep.dp y u p2 (ry.up R.sub), D.shaped_py p1 d1, D.shaped_py p2 d2, ?_⟩
  rw [D.eqb_py x y p1 p2]
  exact hq _ H S _ R (Same.refl S) (.bl _) h
end

/-! ### arithmetic -/
def fAdd : D → D → (D → Prop) → Prop
  | .int i, .int j, k => k (.int (i + j))
  | .int i, .bl b, k => k (.int (i + b2i b))
  | .str x, .str y, k => x.length + y.length ≤ sizeLine ∧ k (.str (x ++ y))
  | .tup xs, .tup ys, k => xs.length + ys.length ≤ sizeLine ∧ k (.tup (xs ++ ys))
  | .lst xs, .lst ys, k => xs.length + ys.length ≤ sizeLine ∧ k (.lst (xs ++ ys))
  | _, _, _ => False
def fSub : D → D → (D → Prop) → Prop
  | .int i, .int j, k => k (.int (i - j))
  | _, _, _ => False
/-- a product: of numbers one of which is not large, or both of which have few bits; a list so many times -/
def MulOk (i j : Int) : Prop := CMul i j ∨ CMulW i j
def fMul : D → D → (D → Prop) → Prop
  | .int i, .int j, k => MulOk i j ∧ k (.int (i * j))
  | .lst xs, .int j, k => -(2 ^ 63) ≤ j ∧ j < 2 ^ 63 ∧ xs.length * j.toNat ≤ sizeLine ∧ k (.lst (List.replicate j.toNat xs).flatten)
  | .tup xs, .int j, k => xs ≠ [] ∧ 2 ≤ j ∧ j ≤ 1000 ∧ xs.length ≤ 1000 ∧ k (.tup (List.replicate j.toNat xs).flatten)
  | _, _, _ => False
def DivOk (i j : Int) : Prop := CDiv i j ∨ CDivW i j
def fDiv : D → D → (D → Prop) → Prop
  | .int i, .int j, k => DivOk i j ∧ k (.int (i / j))
  | _, _, _ => False
def fMod : D → D → (D → Prop) → Prop
  | .int i, .int j, k => 0 < j ∧ k (.int (i % j))
  | _, _, _ => False
def fPow : D → D → (D → Prop) → Prop
  | .int i, .int j, k => CPow i j ∧ k (.int (i ^ j.toNat))
  | _, _, _ => False
def rAddAll (K : PySem.W.Frag) : R2 := fun x y H Q => (rI0 fun i j => .int (i + j)) x y H Q ∨ (∃ i k, x = .int i ∧ y = .bl k ∧ Q (.int (i + b2i k)) H) ∨ (∃ i j, x = .str i ∧ y = .str j ∧ i.length + j.length ≤ sizeLine ∧ Q (.str (i ++ j)) H) ∨ rCatA K x y H Q ∨ rCat x y H Q
section
variable {X : Cx}
theorem op_addAll : OpR X (binaryOp .Add) (rAddAll X.K) := op_add.or (op_add_ib.or (op_add_str.or (op_catA.or op_cat)))
theorem opd_add : OpD X.K (rAddAll X.K) fAdd := by
  intro RK g S H σ ρ x y v u k Qh R rx ry h hq
  match x, y, h with
  | .int i, .int j, h => cases rx; cases ry; exact .inl ⟨i, j, rfl, rfl, hq _ H S _ R (Same.refl S) (.int _) h⟩
  | .int i, .bl b, h => cases rx; cases ry; exact .inr (.inl ⟨i, b, rfl, rfl, hq _ H S _ R (Same.refl S) (.int _) h⟩)
  | .str a, .str b, h => cases rx; cases ry; exact .inr (.inr (.inl ⟨a, b, rfl, rfl, h.1, hq _ H S _ R (Same.refl S) (.str _) h.2⟩))
  | .tup xs, .tup ys, h =>
    cases rx with
    | tup a1 a2 =>
      cases ry with
      | tup b1 b2 =>
        refine .inr (.inr (.inr (.inl ⟨_, _, _, _, rfl, rfl, (TupAt.up R.sub a1).sq, (TupAt.up R.sub b1).sq, by rw [a2.length, b2.length]; exact h.1, fun z => ?_, fun _ z => ?_, fun _ _ p hp => ?_⟩)))
        · subst z
          cases a2
          exact hq _ H S _ R (Same.refl S) (.tup b1 b2) h.2
        · subst z
          cases b2
          exact hq _ H S _ R (Same.refl S) (.tup a1 (by rw [List.append_nil]; exact a2)) h.2
        · obtain ⟨R2, e2⟩ := R.alloc (o := .tup _) hp
          exact hq _ _ _ _ R2 e2 (.tup (.inl upd_same) ((a2.append b2).up e2)) h.2
  | .lst xs, .lst ys, h =>
    cases rx with
    | lst a1 a2 =>
      cases ry with
      | lst b1 b2 =>
        refine .inr (.inr (.inr (.inr ⟨_, _, _, _, rfl, rfl, R.sub _ _ a1, R.sub _ _ b1, by rw [a2.length, b2.length]; exact h.1, fun p hp => ?_⟩)))
        obtain ⟨R2, e2⟩ := R.alloc (o := .lst _) hp
        exact hq _ _ _ _ R2 e2 (.lst upd_same ((a2.append b2).up e2)) h.2
theorem opd_ii {f : D → D → (D → Prop) → Prop} {C : Int → Int → Prop} {g' : Int → Int → Int} (hf : ∀ x y k, f x y k → ∃ i j, x = .int i ∧ y = .int j ∧ C i j ∧ k (.int (g' i j))) : OpD X.K (rI C fun i j => .int (g' i j)) f := by
  intro RK g S H σ ρ x y v u k Qh R rx ry h hq
  obtain ⟨i, j, rfl, rfl, c, q⟩ := hf x y k h
  cases rx; cases ry
  exact ⟨i, j, rfl, rfl, c, hq _ H S _ R (Same.refl S) (.int _) q⟩
theorem opd_sub : OpD X.K (rI0 fun i j => .int (i - j)) fSub := by
  intro RK g S H σ ρ x y v u k Qh R rx ry h hq
  match x, y, h with
  | .int i, .int j, h => cases rx; cases ry; exact ⟨i, j, rfl, rfl, hq _ H S _ R (Same.refl S) (.int _) h⟩
def rMulAll (K : PySem.W.Frag) : R2 := fun x y H Q => (rI CMul fun i j => .int (i * j)) x y H Q ∨ (rI CMulW fun i j => .int (i * j)) x y H Q ∨ rRep x y H Q ∨ rRepT K x y H Q
theorem op_mulAll : OpR X (binaryOp .Mult) (rMulAll X.K) := op_mul.or (op_mulW.or (op_rep.or op_repT))
theorem opd_mul : OpD X.K (rMulAll X.K) fMul := by
  intro RK g S H σ ρ x y v u k Qh R rx ry h hq
  match x, y, h with
  | .int i, .int j, h =>
    cases rx; cases ry
    rcases h.1 with c | c
    · exact .inl ⟨i, j, rfl, rfl, c, hq _ H S _ R (Same.refl S) (.int _) h.2⟩
    · exact .inr (.inl ⟨i, j, rfl, rfl, c, hq _ H S _ R (Same.refl S) (.int _) h.2⟩)
  | .lst xs, .int j, h =>
    cases ry
    cases rx with
    | lst a1 a2 =>
      refine .inr (.inr (.inl ⟨_, j, _, rfl, rfl, R.sub _ _ a1, h.1, h.2.1, by rw [a2.length]; exact h.2.2.1, fun p hp => ?_⟩))
      obtain ⟨R2, e2⟩ := R.alloc (o := .lst _) hp
      exact hq _ _ _ _ R2 e2 (.lst upd_same ((a2.repl _).up e2)) h.2.2.2
  | .tup xs, .int j, h =>
    cases ry
    cases rx with
    | tup a1 a2 =>
      refine .inr (.inr (.inr ⟨_, j, _, rfl, rfl, (TupAt.up R.sub a1).sq, fun z => ?_, h.2.1, h.2.2.1, by rw [a2.length]; exact h.2.2.2.1, fun p hp => ?_⟩))
      · subst z; cases a2; exact h.1 rfl
      · obtain ⟨R2, e2⟩ := R.alloc (o := .tup _) hp
        exact hq _ _ _ _ R2 e2 (.tup (.inl upd_same) ((a2.repl _).up e2)) h.2.2.2.2
def rDivAll : R2 := fun x y H Q => (rI CDiv fun i j => .int (i / j)) x y H Q ∨ (rI CDivW fun i j => .int (i / j)) x y H Q
theorem op_divAll : OpR X (binaryOp .FloorDiv) rDivAll := op_fdiv.or op_fdivW
theorem opd_div : OpD X.K rDivAll fDiv := by
  intro RK g S H σ ρ x y v u k Qh R rx ry h hq
  match x, y, h with
  | .int i, .int j, h =>
    cases rx; cases ry
    rcases h.1 with c | c
    · exact .inl ⟨i, j, rfl, rfl, c, hq _ H S _ R (Same.refl S) (.int _) h.2⟩
    · exact .inr ⟨i, j, rfl, rfl, c, hq _ H S _ R (Same.refl S) (.int _) h.2⟩
theorem opd_mod : OpD X.K (rI (fun _ j => 0 < j) fun i j => .int (i % j)) fMod := opd_ii fun x y k h => by
  match x, y, h with
  | .int i, .int j, h => exact ⟨i, j, rfl, rfl, h.1, h.2⟩
theorem opd_pow : OpD X.K (rI CPow fun i j => .int (i ^ j.toNat)) fPow := opd_ii fun x y k h => by
  match x, y, h with
  | .int i, .int j, h => exact ⟨i, j, rfl, rfl, h.1, h.2⟩
/-- in place: numbers -/
def fAddI : D → D → (D → Prop) → Prop
  | .int i, .int j, k => k (.int (i + j))
  | _, _, _ => False
theorem ip_addI : PIp X .Add (rI0 fun i j => .int (i + j)) := iop_add
theorem opd_addI : OpD X.K (rI0 fun i j => .int (i + j)) fAddI := by
  intro RK g S H σ ρ x y v u k Qh R rx ry h hq
  match x, y, h with
  | .int i, .int j, h => cases rx; cases ry; exact ⟨i, j, rfl, rfl, hq _ H S _ R (Same.refl S) (.int _) h⟩
theorem ip_subI : PIp X .Sub (rI0 fun i j => .int (i - j)) := iop_sub
def fMulI : D → D → (D → Prop) → Prop
  | .int i, .int j, k => CMul i j ∧ k (.int (i * j))
  | _, _, _ => False
theorem ip_mulI : PIp X .Mult (rI CMul fun i j => .int (i * j)) := iop_mul
theorem opd_mulI : OpD X.K (rI CMul fun i j => .int (i * j)) fMulI := opd_ii fun x y k h => by
  match x, y, h with
  | .int i, .int j, h => exact ⟨i, j, rfl, rfl, h.1, h.2⟩

/-! ### order -/
def fCmp (p : Int → Int → Bool) : D → D → (D → Prop) → Prop
  | .int i, .int j, k => k (.bl (p i j))
  | _, _, _ => False
@[simp] def fLe : D → D → (D → Prop) → Prop := fCmp fun i j => decide (i ≤ j)
@[simp] def fGt : D → D → (D → Prop) → Prop := fCmp fun i j => decide (j < i)
@[simp] def fGe : D → D → (D → Prop) → Prop := fCmp fun i j => decide (j ≤ i)
def fLt : D → D → (D → Prop) → Prop
  | .int i, .int j, k => k (.bl (decide (i < j)))
  | .str i, .str j, k => k (.bl (decide (i.cps.toList < j.cps.toList)))
  | .tup xs, .tup ys, k => ∃ ns ms, xs = ns.map D.int ∧ ys = ms.map D.int ∧ k (.bl (HT.lexLt ns ms))
  | _, _, _ => False
theorem opd_cmp {p : Int → Int → Bool} : OpD X.K (rI0 fun i j => .bl (p i j)) (fCmp p) := by
  intro RK g S H σ ρ x y v u k Qh R rx ry h hq
  match x, y, h with
  | .int i, .int j, h => cases rx; cases ry; exact ⟨i, j, rfl, rfl, hq _ H S _ R (Same.refl S) (.bl _) h⟩
def rLtAll (K : PySem.W.Frag) : R2 := fun x y H Q => (rI0 fun i j => .bl (decide (i < j))) x y H Q ∨ (∃ i j, x = .str i ∧ y = .str j ∧ Q (.bl (decide (i.cps.toList < j.cps.toList))) H) ∨ rLtT K x y H Q
theorem op_ltAll (hu : X.A.units < cLine) : OpR X (compareOp .Lt) (rLtAll X.K) := op_lt.or (op_lt_str.or (op_ltT hu))
theorem opd_lt : OpD X.K (rLtAll X.K) fLt := by
  intro RK g S H σ ρ x y v u k Qh R rx ry h hq
  match x, y, h with
  | .int i, .int j, h => cases rx; cases ry; exact .inl ⟨i, j, rfl, rfl, hq _ H S _ R (Same.refl S) (.bl _) h⟩
  | .str i, .str j, h => cases rx; cases ry; exact .inr (.inl ⟨i, j, rfl, rfl, hq _ H S _ R (Same.refl S) (.bl _) h⟩)
  | .tup xs, .tup ys, ⟨ns, ms, e1, e2, h⟩ =>
    subst e1 e2
    cases rx with
    | tup a1 a2 =>
      cases ry with
      | tup b1 b2 =>
        have z1 := a2.ints
        have z2 := b2.ints
        subst z1 z2
        exact .inr (.inr ⟨_, _, ns, ms, rfl, rfl, (TupAt.up R.sub a1).sq, (TupAt.up R.sub b1).sq, hq _ H S _ R (Same.refl S) (.bl _) h⟩)

/-! ### is, is not -/
def D.isN : D → Option Bool
  | .non => some true
  | .raw _ => none
  | .fn _ => none
  | _ => some false
@[simp] def fIs (x y : D) (k : D → Prop) : Prop := match y with
  | .non => match x.isN with
    | some b => k (.bl b)
    | none => False
  | .bl b => match x with
    | .bl a => k (.bl (decide (a = b)))
    | _ => False
  | _ => False
@[simp] def fIsNot (x y : D) (k : D → Prop) : Prop := match y with
  | .non => match x.isN with
    | some b => k (.bl (!b))
    | none => False
  | .bl b => match x with
    | .bl a => k (.bl (!decide (a = b)))
    | _ => False
  | _ => False
def rIsAll : R2 := fun x y H Q => (y = .non ∧ Q (.bl (decide (x = .non))) H) ∨ ∃ a b, x = .bl a ∧ y = .bl b ∧ Q (.bl (decide (a = b))) H
def rIsNotAll : R2 := fun x y H Q => (y = .non ∧ Q (.bl (!decide (x = .non))) H) ∨ ∃ a b, x = .bl a ∧ y = .bl b ∧ Q (.bl (!decide (a = b))) H
theorem op_isAll : OpR X (compareOp .Is) rIsAll := op_isN.or op_is_bl
theorem op_isNotAll : OpR X (compareOp .IsNot) rIsNotAll := op_notN.or op_isnot_bl
theorem isN_dec {K : PySem.W.Frag} {S : Hp} {x : D} {v : V} {b : Bool} (r : Rep K S v x) (h : x.isN = some b) : decide (v = .non) = b := by
  cases r <;> simp only [D.isN] at h <;> first | (cases h; rfl) | cases h
theorem opd_is : OpD X.K rIsAll fIs := by
  intro RK g S H σ ρ x y v u k Qh R rx ry h hq
  cases y with
  | non =>
    cases ry
    simp only [fIs] at h
    cases e : x.isN with
    | none => simp only [e] at h
    | some b => simp only [e] at h; exact .inl ⟨rfl, by rw [isN_dec rx e]; exact hq _ H S _ R (Same.refl S) (.bl _) h⟩
  | bl b =>
    cases ry
    cases x with
    | bl a => cases rx; exact .inr ⟨a, b, rfl, rfl, hq _ H S _ R (Same.refl S) (.bl _) h⟩
    | _ => exact h.elim
  | _ => exact h.elim
theorem opd_isNot : OpD X.K rIsNotAll fIsNot := by
  intro RK g S H σ ρ x y v u k Qh R rx ry h hq
  cases y with
  | non =>
    cases ry
    simp only [fIsNot] at h
    cases e : x.isN with
    | none => simp only [e] at h
    | some b => simp only [e] at h; exact .inl ⟨rfl, by rw [isN_dec rx e]; exact hq _ H S _ R (Same.refl S) (.bl _) h⟩
  | bl b =>
    cases ry
    cases x with
    | bl a => cases rx; exact .inr ⟨a, b, rfl, rfl, hq _ H S _ R (Same.refl S) (.bl _) h⟩
    | _ => exact h.elim
  | _ => exact h.elim

/-! ### in, not in -/
def D.flat : D → Bool
  | .non => true
  | .bl _ => true
  | .int _ => true
  | .str _ => true
  | _ => false
def D.its? : D → Option (List D)
  | .lst xs => some xs
  | .tup xs => some xs
  | _ => none
/-- whether x is among them -/
def D.mem (x : D) (xs : List D) : Bool := xs.any fun z => D.eqb z x
def fIn (x y : D) (k : D → Prop) : Prop := match y with
  | .lst xs => ((x.flat = true ∧ xs.all D.flat = true) ∨ (x.plain = true ∧ D.plains xs = true ∧ x.dep ≤ 64 ∧ (D.lst xs).dep ≤ 64)) ∧ k (.bl (D.mem x xs))
  | .tup xs => x.flat = true ∧ xs.all D.flat = true ∧ k (.bl (D.mem x xs))
  | .str z => match x with
    | .str c => ∃ s, c = ⟨#[s]⟩ ∧ k (.bl (decide (s ∈ z.cps.toList)))
    | _ => False
  | _ => False
def fNotIn (x y : D) (k : D → Prop) : Prop := match y with
  | .lst xs => ((x.flat = true ∧ xs.all D.flat = true) ∨ (x.plain = true ∧ D.plains xs = true ∧ x.dep ≤ 64 ∧ (D.lst xs).dep ≤ 64)) ∧ k (.bl (!D.mem x xs))
  | .tup xs => x.flat = true ∧ xs.all D.flat = true ∧ k (.bl (!D.mem x xs))
  | .str z => match x with
    | .str c => ∃ s, c = ⟨#[s]⟩ ∧ k (.bl (!decide (s ∈ z.cps.toList)))
    | _ => False
  | _ => False
theorem eqV_eqb {K : PySem.W.Frag} {S : Hp} {x y : D} {v u : V} (rx : Rep K S v x) (ry : Rep K S u y) (fx : x.flat = true) (fy : y.flat = true) : eqV v u = D.eqb x y := by
  cases x <;> first | (simp [D.flat] at fx; done) | (cases rx; cases y <;> first | (simp [D.flat] at fy; done) | (cases ry; simp only [eqV, D.eqb]))
theorem flatV_of {K : PySem.W.Frag} {S : Hp} {x : D} {v : V} (rx : Rep K S v x) (fx : x.flat = true) : flatV v = true := by
  cases x <;> first | (cases rx; rfl) | (simp [D.flat] at fx)
theorem inV_mem {K : PySem.W.Frag} {S : Hp} {x : D} {v : V} (rx : Rep K S v x) (fx : x.flat = true) : ∀ {vs : List V} {xs : List D}, Reps K S vs xs → xs.all D.flat = true → inV v vs = D.mem x xs ∧ vs.all flatV = true
  | [], [], _, _ => ⟨rfl, rfl⟩
  | u :: vs, y :: xs, .cons r t, f => by
    rw [List.all_cons, Bool.and_eq_true] at f
    obtain ⟨h1, h2⟩ := inV_mem rx fx t f.2
    refine ⟨?_, by rw [List.all_cons, flatV_of r f.1, h2]; rfl⟩
    unfold inV D.mem at h1 ⊢
    rw [List.any_cons, List.any_cons, eqV_eqb r rx f.1 fx, h1]
theorem any_py {x : D} (hx : x.plain = true) : ∀ xs : List D, D.plains xs = true → ((D.pys xs).any fun z => PyData.eqv z x.py) = D.mem x xs
  | [], _ => rfl
  | y :: xs, h => by
    simp only [D.plains, Bool.and_eq_true] at h
    have ih := any_py hx xs h.2
    unfold D.mem at ih ⊢
    simp only [D.pys, List.any_cons]
    rw [D.eqb_py y x h.1 hx, ih]
def rInAll (K : PySem.W.Frag) : R2 := fun x y H Q => rIn K false x y H Q ∨ rInD K x y H Q ∨ ∃ (c : Nat) (z : Str), x = .str ⟨#[c]⟩ ∧ y = .str z ∧ Q (.bl (decide (c ∈ z.cps.toList))) H
def rNotInAll (K : PySem.W.Frag) : R2 := fun x y H Q => rIn K true x y H Q ∨ rNotInD K x y H Q ∨ ∃ (c : Nat) (z : Str), x = .str ⟨#[c]⟩ ∧ y = .str z ∧ Q (.bl (!decide (c ∈ z.cps.toList))) H
theorem op_inAll (hu : X.A.units + 65 < cLine) : OpR X (compareOp .In) (rInAll X.K) := op_in_seq.or ((op_inD hu).or op_in_sign)
theorem op_notInAll (hu : X.A.units + 65 < cLine) : OpR X (compareOp .NotIn) (rNotInAll X.K) := op_notIn_seq.or ((op_notInD hu).or op_notIn_sign)
theorem opd_in : OpD X.K (rInAll X.K) fIn := by
  intro RK g S H σ ρ x y v u k Qh R rx ry h hq
  cases y with
  | lst xs =>
    obtain ⟨h, q⟩ := h
    cases ry with
    | lst b1 b2 =>
      rcases h with ⟨f1, f2⟩ | ⟨f1, f2, f3, f4⟩
      · obtain ⟨z1, z2⟩ := inV_mem rx f1 b2 f2
        exact .inl ⟨_, _, rfl, .inl (SqL.of (R.sub _ _ b1)), flatV_of rx f1, z2, by
          show Qh (.bl (inV v _)) H
          rw [z1]; exact hq _ H S _ R (Same.refl S) (.bl _) q⟩
      · refine .inr (.inl ⟨x.py, D.pys xs, Rep.dp x v f1 (rx.up R.sub), .lst (SqL.of (R.sub _ _ b1)) (Reps.dps xs _ f2 (b2.up R.sub)), D.shaped_py f1 f3, ?_, ?_⟩)
        · have := D.shaped_py (x := .lst xs) (by simpa only [D.plain] using f2) f4
          simpa only [D.py] using this
        · rw [any_py f1 xs f2]; exact hq _ H S _ R (Same.refl S) (.bl _) q
  | tup xs =>
    obtain ⟨f1, f2, q⟩ := h
    cases ry with
    | tup b1 b2 =>
      obtain ⟨z1, z2⟩ := inV_mem rx f1 b2 f2
      exact .inl ⟨_, _, rfl, .inr ((TupAt.up R.sub b1).sq), flatV_of rx f1, z2, by
        show Qh (.bl (inV v _)) H
        rw [z1]; exact hq _ H S _ R (Same.refl S) (.bl _) q⟩
  | str z =>
    cases ry
    cases x with
    | str c =>
      obtain ⟨s, rfl, q⟩ := h
      cases rx
      exact .inr (.inr ⟨s, z, rfl, rfl, hq _ H S _ R (Same.refl S) (.bl _) q⟩)
    | _ => exact h.elim
  | _ => exact h.elim
theorem opd_notIn : OpD X.K (rNotInAll X.K) fNotIn := by
  intro RK g S H σ ρ x y v u k Qh R rx ry h hq
  cases y with
  | lst xs =>
    obtain ⟨h, q⟩ := h
    cases ry with
    | lst b1 b2 =>
      rcases h with ⟨f1, f2⟩ | ⟨f1, f2, f3, f4⟩
      · obtain ⟨z1, z2⟩ := inV_mem rx f1 b2 f2
        exact .inl ⟨_, _, rfl, .inl (SqL.of (R.sub _ _ b1)), flatV_of rx f1, z2, by
          show Qh (.bl (!inV v _)) H
          rw [z1]; exact hq _ H S _ R (Same.refl S) (.bl _) q⟩
      · refine .inr (.inl ⟨x.py, D.pys xs, Rep.dp x v f1 (rx.up R.sub), .lst (SqL.of (R.sub _ _ b1)) (Reps.dps xs _ f2 (b2.up R.sub)), D.shaped_py f1 f3, ?_, ?_⟩)
        · have := D.shaped_py (x := .lst xs) (by simpa only [D.plain] using f2) f4
          simpa only [D.py] using this
        · rw [any_py f1 xs f2]; exact hq _ H S _ R (Same.refl S) (.bl _) q
  | tup xs =>
    obtain ⟨f1, f2, q⟩ := h
    cases ry with
    | tup b1 b2 =>
      obtain ⟨z1, z2⟩ := inV_mem rx f1 b2 f2
      exact .inl ⟨_, _, rfl, .inr ((TupAt.up R.sub b1).sq), flatV_of rx f1, z2, by
        show Qh (.bl (!inV v _)) H
        rw [z1]; exact hq _ H S _ R (Same.refl S) (.bl _) q⟩
  | str z =>
    cases ry
    cases x with
    | str c =>
      obtain ⟨s, rfl, q⟩ := h
      cases rx
      exact .inr (.inr ⟨s, z, rfl, rfl, hq _ H S _ R (Same.refl S) (.bl _) q⟩)
    | _ => exact h.elim
  | _ => exact h.elim
end
end DL
/-! DL7: built-ins, subscripts, slices -/
namespace DL
open PySem PySem.Spec PyProof.Rows L2

/-! ### calls of built-ins -/
def CallD (K : PySem.W.Frag) (r : List V → Hp → VK → Prop) (f : List D → (D → Prop) → Prop) : Prop :=
  ∀ (RK : Res → Prop) (g : G) (S H : Hp) (σ : L2.St) (ρ : Rho) (xs : List D) (vs : List V) (k : D → Prop) (Qh : VK), ER K RK g S H σ ρ → Reps K S vs xs → f xs k →
    (∀ w H' S' z, ER K RK g S' H' σ ρ → Same S S' → Rep K S' w z → k z → Qh w H') → r vs H Qh
/-- .. that give a fresh list -/
def CallF (K : PySem.W.Frag) (r : List V → Hp → VK → Prop) (f : List D → (List D → Prop) → Prop) : Prop :=
  ∀ (RK : Res → Prop) (g : G) (S H : Hp) (σ : L2.St) (ρ : Rho) (xs : List D) (vs : List V) (k : List D → Prop) (Qh : VK), ER K RK g S H σ ρ → Reps K S vs xs → f xs k →
    (∀ p ys H' S' ds, ER K RK g S' H' σ ρ → Same S S' → H' p = some (.lst ys) → S' p = none → g.He p = none → (∀ i, ownAt ρ i ≠ some p) → Reps K S' ys ds → k ds → Qh (.ref p) H') → r vs H Qh
@[simp] def dCB (f : List D → (D → Prop) → Prop) (r : DA) : DT := fun E ρ Q => r E ρ fun xs ρ1 => f xs fun z => Q z ρ1
@[simp] def dCF (f : List D → (List D → Prop) → Prop) (r : DA) : DF := fun E ρ Q => r E ρ fun xs ρ1 => f xs fun z => Q z ρ1
section
variable {X : Cx} {RK : Res → Prop} {W : WX} {pos p : Pos} {e : Expr} {es : List Expr} {a : DA} {x : Str} {r r' : List V → Hp → VK → Prop} {f f' : List D → (D → Prop) → Prop} {ff : List D → (List D → Prop) → Prop} {id T : String}
theorem lift_cb (hf : CallD X.K r f) : ∀ σ H Q, liftE X.K RK W (dCB f a) σ H Q → tCB r (liftA X.K RK W a) σ H Q := by
  rintro σ H Qh ⟨g, S, ρ, Q, E, R, h, hq, hx⟩
  exact ⟨g, S, ρ, _, E, R, h, fun vs H1 S1 ρ1 xs R1 e1 r1 q1 => hf RK g S1 H1 σ ρ1 xs vs _ Qh R1 r1 q1 fun w H3 S3 z R3 e3 r3 k3 => hq w H3 S3 ρ1 z R3 (e1.trans e3) r3 k3, hx⟩
theorem lift_cf (hf : CallF X.K r ff) : ∀ σ H Q, liftF X.K RK W (dCF ff a) σ H Q → tCB r (liftA X.K RK W a) σ H Q := by
  rintro σ H Qh ⟨g, S, ρ, Q, E, R, h, hq, hx⟩
  exact ⟨g, S, ρ, _, E, R, h, fun vs H1 S1 ρ1 xs R1 e1 r1 q1 => hf RK g S1 H1 σ ρ1 xs vs _ Qh R1 r1 q1 fun p ys H3 S3 ds R3 e3 h1 h2 h3 h4 r3 k3 => hq p ys H3 S3 ρ1 ds R3 (e1.trans e3) h1 h2 h3 h4 r3 k3, hx⟩
theorem de_callB (hc : CallR X (.builtin id) r) (hf : CallD X.K r f) (hg : Gl X x) (hm : X.mg x = none) (hv : bootBuiltins x = some (.builtin id)) (ha : DAs X RK W (e :: es) a) (hn : x ≠ "__name__" := by decide) (hdb : (x == ("__debug__" : Str)) = false := by decide)
    (he : starEach (e :: es) X.env = (false, eval e X.env) :: starEach es X.env := by rfl) (hpl : (backTo pos (starEach es X.env)).any (·.1) = false := by rfl) : DE X RK W (.Call (.Name x p) (e :: es) [] pos) (dCB f a) :=
  pe_weak (pe_callB hc hg hm hv ha hn hdb he hpl) (lift_cb hf)
theorem de_callTy (hc : CallR X (.type T) r) (hf : CallD X.K r f) (hg : Gl X x) (hm : X.mg x = none) (hv : bootBuiltins x = some (.type T)) (ha : DAs X RK W (e :: es) a) (hn : x ≠ "__name__" := by decide) (hdb : (x == ("__debug__" : Str)) = false := by decide)
    (he : starEach (e :: es) X.env = (false, eval e X.env) :: starEach es X.env := by rfl) (hpl : (backTo pos (starEach es X.env)).any (·.1) = false := by rfl) : DE X RK W (.Call (.Name x p) (e :: es) [] pos) (dCB f a) :=
  pe_weak (pe_callTy hc hg hm hv ha hn hdb he hpl) (lift_cb hf)
theorem df_callB (hc : CallR X (.builtin id) r) (hf : CallF X.K r ff) (hg : Gl X x) (hm : X.mg x = none) (hv : bootBuiltins x = some (.builtin id)) (ha : DAs X RK W (e :: es) a) (hn : x ≠ "__name__" := by decide) (hdb : (x == ("__debug__" : Str)) = false := by decide)
    (he : starEach (e :: es) X.env = (false, eval e X.env) :: starEach es X.env := by rfl) (hpl : (backTo pos (starEach es X.env)).any (·.1) = false := by rfl) : DFr X RK W (.Call (.Name x p) (e :: es) [] pos) (dCF ff a) :=
  pe_weak (pe_callB hc hg hm hv ha hn hdb he hpl) (lift_cf hf)
theorem df_callTy (hc : CallR X (.type T) r) (hf : CallF X.K r ff) (hg : Gl X x) (hm : X.mg x = none) (hv : bootBuiltins x = some (.type T)) (ha : DAs X RK W (e :: es) a) (hn : x ≠ "__name__" := by decide) (hdb : (x == ("__debug__" : Str)) = false := by decide)
    (he : starEach (e :: es) X.env = (false, eval e X.env) :: starEach es X.env := by rfl) (hpl : (backTo pos (starEach es X.env)).any (·.1) = false := by rfl) : DFr X RK W (.Call (.Name x p) (e :: es) [] pos) (dCF ff a) :=
  pe_weak (pe_callTy hc hg hm hv ha hn hdb he hpl) (lift_cf hf)

/-! ### the built-ins -/
def fLen : List D → (D → Prop) → Prop
  | [.str y], k => y.length ≤ sizeLine ∧ k (.int y.length)
  | [.lst ds], k => k (.int ds.length)
  | [.tup ds], k => k (.int ds.length)
  | [.dct ks ds], k => k (.int ks.length)
  | _, _ => False
def rLenAll (K : PySem.W.Frag) : List V → Hp → VK → Prop := fun xs H Q => (∃ x n, xs = [x] ∧ LenV K x H n ∧ Q (.int n) H) ∨ ∃ a kvs, xs = [V.ref a] ∧ H a = some (.dK kvs) ∧ Q (.int kvs.length) H
theorem call_lenAll : CallR X (.builtin "len") (rLenAll X.K) := call_len.or call_lenD
theorem cd_len : CallD X.K (rLenAll X.K) fLen := by
  intro RK g S H σ ρ xs vs k Qh R r h hq
  match xs, r, h with
  | [.str y], .cons r1 .nil, h => cases r1; exact .inl ⟨_, _, rfl, ⟨h.1, rfl⟩, hq _ H S _ R (Same.refl S) (.int _) h.2⟩
  | [.lst ds], .cons r1 .nil, h =>
    cases r1 with
    | lst a1 a2 => exact .inl ⟨_, _, rfl, .inl ⟨_, SqL.of (R.sub _ _ a1), rfl⟩, hq _ H S _ R (Same.refl S) (.int _) (by rw [a2.length]; exact h)⟩
  | [.tup ds], .cons r1 .nil, h =>
    cases r1 with
    | tup a1 a2 => exact .inl ⟨_, _, rfl, .inr ⟨_, (TupAt.up R.sub a1).sq, rfl⟩, hq _ H S _ R (Same.refl S) (.int _) (by rw [a2.length]; exact h)⟩
  | [.dct ks ds], .cons r1 .nil, h =>
    cases r1 with
    | dct a1 a2 a3 => exact .inr ⟨_, _, rfl, R.sub _ _ a1, hq _ H S _ R (Same.refl S) (.int _) (by
        have e := congrArg List.length a2
        rw [List.length_map] at e
        rw [e]; exact h)⟩
def fAbs : List D → (D → Prop) → Prop
  | [.int i], k => k (.int (if i < 0 then -i else i))
  | _, _ => False
theorem cd_abs : CallD X.K (fun xs H Q => ∃ i, xs = [V.int i] ∧ Q (.int (if i < 0 then -i else i)) H) fAbs := by
  intro RK g S H σ ρ xs vs k Qh R r h hq
  match xs, r, h with
  | [.int i], .cons r1 .nil, h => cases r1; exact ⟨i, rfl, hq _ H S _ R (Same.refl S) (.int _) h⟩
def fInt : List D → (D → Prop) → Prop
  | [.int i], k => k (.int i)
  | [.bl b], k => k (.int (if b then 1 else 0))
  | _, _ => False
theorem cd_int : CallD X.K (fun xs H Q => (∃ i, xs = [V.int i] ∧ Q (.int i) H) ∨ ∃ k, xs = [V.bl k] ∧ Q (.int (if k then 1 else 0)) H) fInt := by
  intro RK g S H σ ρ xs vs k Qh R r h hq
  match xs, r, h with
  | [.int i], .cons r1 .nil, h => cases r1; exact .inl ⟨i, rfl, hq _ H S _ R (Same.refl S) (.int _) h⟩
  | [.bl b], .cons r1 .nil, h => cases r1; exact .inr ⟨b, rfl, hq _ H S _ R (Same.refl S) (.int _) h⟩
def fMin : List D → (D → Prop) → Prop
  | [.int i, .int j], k => k (.int (if j < i then j else i))
  | [.lst xs], k => ∃ ns : List Int, xs = ns.map D.int ∧ 0 < ns.length ∧ ∀ m, m ∈ ns → (∀ y, y ∈ ns → m ≤ y) → k (.int m)
  | _, _ => False
def fMax : List D → (D → Prop) → Prop
  | [.int i, .int j], k => k (.int (if j > i then j else i))
  | [.lst xs], k => ∃ ns : List Int, xs = ns.map D.int ∧ 0 < ns.length ∧ ∀ m, m ∈ ns → (∀ y, y ∈ ns → y ≤ m) → k (.int m)
  | _, _ => False
def rMinAll (K : PySem.W.Frag) : List V → Hp → VK → Prop := fun xs H Q => (∃ i j, xs = [V.int i, .int j] ∧ Q (.int (if j < i then j else i)) H) ∨ rMin K xs H Q
def rMaxAll (K : PySem.W.Frag) : List V → Hp → VK → Prop := fun xs H Q => (∃ i j, xs = [V.int i, .int j] ∧ Q (.int (if j > i then j else i)) H) ∨ rMax K xs H Q
theorem call_minAll (hc : X.calm = true) : CallR X (.builtin "min") (rMinAll X.K) := (call_min2 hc).or (cr_min hc)
theorem call_maxAll (hc : X.calm = true) : CallR X (.builtin "max") (rMaxAll X.K) := (call_max2 hc).or (cr_max hc)
theorem cd_min : CallD X.K (rMinAll X.K) fMin := by
  intro RK g S H σ ρ xs vs k Qh R r h hq
  match xs, r, h with
  | [.int i, .int j], .cons r1 (.cons r2 .nil), h => cases r1; cases r2; exact .inl ⟨i, j, rfl, hq _ H S _ R (Same.refl S) (.int _) h⟩
  | [.lst xs], .cons r1 .nil, ⟨ns, e, l, h⟩ =>
    subst e
    cases r1 with
    | lst a1 a2 =>
      have z := a2.ints
      subst z
      exact .inr ⟨_, ns, rfl, SqL.of (R.sub _ _ a1), l, fun m h1 h2 => hq _ H S _ R (Same.refl S) (.int _) (h m h1 h2)⟩
theorem cd_max : CallD X.K (rMaxAll X.K) fMax := by
  intro RK g S H σ ρ xs vs k Qh R r h hq
  match xs, r, h with
  | [.int i, .int j], .cons r1 (.cons r2 .nil), h => cases r1; cases r2; exact .inl ⟨i, j, rfl, hq _ H S _ R (Same.refl S) (.int _) h⟩
  | [.lst xs], .cons r1 .nil, ⟨ns, e, l, h⟩ =>
    subst e
    cases r1 with
    | lst a1 a2 =>
      have z := a2.ints
      subst z
      exact .inr ⟨_, ns, rfl, SqL.of (R.sub _ _ a1), l, fun m h1 h2 => hq _ H S _ R (Same.refl S) (.int _) (h m h1 h2)⟩
def fSum : List D → (D → Prop) → Prop
  | [.lst xs], k => ∃ ns : List Int, xs = ns.map D.int ∧ k (.int ns.sum)
  | _, _ => False
theorem cd_sum : CallD X.K (rSum X.K) fSum := by
  intro RK g S H σ ρ xs vs k Qh R r h hq
  match xs, r, h with
  | [.lst xs], .cons r1 .nil, ⟨ns, e, h⟩ =>
    subst e
    cases r1 with
    | lst a1 a2 =>
      have z := a2.ints
      subst z
      exact ⟨_, ns, rfl, SqL.of (R.sub _ _ a1), hq _ H S _ R (Same.refl S) (.int _) h⟩
def fAny : List D → (D → Prop) → Prop
  | [.lst xs], k => ∃ bs : List Bool, xs = bs.map D.bl ∧ k (.bl (bs.any (fun b => b)))
  | _, _ => False
def fAll : List D → (D → Prop) → Prop
  | [.lst xs], k => ∃ bs : List Bool, xs = bs.map D.bl ∧ k (.bl (bs.all (fun b => b)))
  | _, _ => False
theorem cd_any : CallD X.K (rAny X.K) fAny := by
  intro RK g S H σ ρ xs vs k Qh R r h hq
  match xs, r, h with
  | [.lst xs], .cons r1 .nil, ⟨ns, e, h⟩ =>
    subst e
    cases r1 with
    | lst a1 a2 =>
      have z := a2.bls
      subst z
      exact ⟨_, ns, rfl, SqL.of (R.sub _ _ a1), hq _ H S _ R (Same.refl S) (.bl _) h⟩
theorem cd_all : CallD X.K (rAll X.K) fAll := by
  intro RK g S H σ ρ xs vs k Qh R r h hq
  match xs, r, h with
  | [.lst xs], .cons r1 .nil, ⟨ns, e, h⟩ =>
    subst e
    cases r1 with
    | lst a1 a2 =>
      have z := a2.bls
      subst z
      exact ⟨_, ns, rfl, SqL.of (R.sub _ _ a1), hq _ H S _ R (Same.refl S) (.bl _) h⟩
def fTuple : List D → (D → Prop) → Prop
  | [.lst xs], k => k (.tup xs)
  | [.tup xs], k => k (.tup xs)
  | _, _ => False
theorem cd_tuple : CallD X.K (fun xs H Q => ∃ p ys, xs = [V.ref p] ∧ ((SqL X.K H p ys ∧ ∀ l, H l = none → Q (.ref l) (upd H l (.tup ys))) ∨ (SqT X.K H p ys ∧ Q (.ref p) H))) fTuple := by
  intro RK g S H σ ρ xs vs k Qh R r h hq
  match xs, r, h with
  | [.lst xs], .cons r1 .nil, h =>
    cases r1 with
    | lst a1 a2 =>
      refine ⟨_, _, rfl, .inl ⟨SqL.of (R.sub _ _ a1), fun p hp => ?_⟩⟩
      obtain ⟨R2, e2⟩ := R.alloc (o := .tup _) hp
      exact hq _ _ _ _ R2 e2 (.tup (.inl upd_same) (a2.up e2)) h
  | [.tup xs], .cons r1 .nil, h =>
    cases r1 with
    | tup a1 a2 => exact ⟨_, _, rfl, .inr ⟨(TupAt.up R.sub a1).sq, hq _ H S _ R (Same.refl S) (.tup a1 a2) h⟩⟩
def fList : List D → (List D → Prop) → Prop
  | [.lst xs], k => k xs
  | [.tup xs], k => k xs
  | _, _ => False
theorem cf_list : CallF X.K (fun xs H Q => ∃ p ys, xs = [V.ref p] ∧ (SqL X.K H p ys ∨ SqT X.K H p ys) ∧ ∀ l, H l = none → Q (.ref l) (upd H l (.lst ys))) fList := by
  intro RK g S H σ ρ xs vs k Qh R r h hq
  match xs, r, h with
  | [.lst xs], .cons r1 .nil, h =>
    cases r1 with
    | lst a1 a2 =>
      refine ⟨_, _, rfl, .inl (SqL.of (R.sub _ _ a1)), fun p hp => ?_⟩
      obtain ⟨f1, f2, f3, f4⟩ := R.fresh hp
      exact hq p _ _ S _ (R.alloc0 hp) (Same.refl S) upd_same f2 f1 f4 a2 h
  | [.tup xs], .cons r1 .nil, h =>
    cases r1 with
    | tup a1 a2 =>
      refine ⟨_, _, rfl, .inr ((TupAt.up R.sub a1).sq), fun p hp => ?_⟩
      obtain ⟨f1, f2, f3, f4⟩ := R.fresh hp
      exact hq p _ _ S _ (R.alloc0 hp) (Same.refl S) upd_same f2 f1 f4 a2 h
def fSorted : List D → (List D → Prop) → Prop
  | [.lst xs], k => ∃ ns : List Int, xs = ns.map D.int ∧ ∀ ns' : List Int, ns'.Perm ns → ns'.Pairwise (· ≤ ·) → k (ns'.map D.int)
  | _, _ => False
theorem cf_sorted : CallF X.K (rSortedI X.K) fSorted := by
  intro RK g S H σ ρ xs vs k Qh R r h hq
  match xs, r, h with
  | [.lst xs], .cons r1 .nil, ⟨ns, e, h⟩ =>
    subst e
    cases r1 with
    | lst a1 a2 =>
      have z := a2.ints
      subst z
      refine ⟨_, ns, rfl, SqL.of (R.sub _ _ a1), fun ns' p h1 h2 hp => ?_⟩
      obtain ⟨f1, f2, f3, f4⟩ := R.fresh hp
      exact hq p _ _ S _ (R.alloc0 hp) (Same.refl S) upd_same f2 f1 f4 Reps.of_ints (h ns' h1 h2)
end
end DL
namespace DL
open PySem PySem.Spec PyProof.Rows L2
section
variable {X : Cx}
/-! ### isinstance -/
def D.tyN : D → Option String
  | .non => some "NoneType"
  | .bl _ => some "bool"
  | .int _ => some "int"
  | .str _ => some "str"
  | .tup _ => some "tuple"
  | .lst _ => some "list"
  | .dct _ _ => some "dict"
  | .raw _ => none
  | .fn _ => none
@[simp] def tyNames : List String := ["int", "bool", "str", "tuple", "list", "dict"]
@[simp] def subTy (a b : String) : Bool := a == b || (a == "bool" && b == "int")
def D.isTy (x : D) (T : String) : Bool := match x.tyN with
  | some a => subTy a T
  | none => false
def tyAll : List String := ["NoneType", "bool", "int", "str", "tuple", "list", "dict"]
def kitAll : Bool := tyAll.all fun a => tyNames.all fun b => kitB a b == some (subTy a b)
theorem kitAll_ok : kitAll = true := by decide +kernel
theorem kit_tab : ∀ a ∈ tyAll, ∀ b ∈ tyNames, kitB a b = some (subTy a b) := fun a ha b hb => by
  have h := kitAll_ok
  unfold kitAll at h
  have h1 := List.all_eq_true.mp h a ha
  have h2 := List.all_eq_true.mp h1 b hb
  exact eq_of_beq h2
theorem D.tyN_mem {x : D} {a : String} (h : x.tyN = some a) : a ∈ tyAll := by
  cases x <;> simp only [D.tyN, Option.some.injEq] at h <;> first | (subst h; decide +kernel) | cases h
theorem Rep.tyx {K : PySem.W.Frag} {S H : Hp} (e : Same S H) {x : D} {v : V} {a : String} (r : Rep K S v x) (h : x.tyN = some a) : TyX K H v (.type a) := by
  cases r with
  | non => cases h; exact .base .non
  | bl b => cases h; exact .base (.bl b)
  | int i => cases h; exact .base (.int i)
  | str y => cases h; exact .base (.str y)
  | raw v => cases h
  | fn v => cases h
  | lst h1 h2 => cases h; exact .base (.lst (e _ _ h1))
  | dct h1 h2 h3 => cases h; exact .base (.dK (e _ _ h1))
  | tup h1 h2 =>
    cases h
    rcases h1 with h1 | ⟨o, its, n, k, c, _⟩
    · exact .base (.tup (e _ _ h1))
    · exact .kTuple k c
def fIsi : List D → (D → Prop) → Prop
  | [x, .raw (.ty T)], k => x.tyN.isSome = true ∧ T ∈ tyNames ∧ k (.bl (x.isTy T))
  | [x, .tup [.raw (.ty T), .raw (.ty T')]], k => x.tyN.isSome = true ∧ T ∈ tyNames ∧ T' ∈ tyNames ∧ k (.bl (x.isTy T || x.isTy T'))
  | _, _ => False
def rIsiAll (K : PySem.W.Frag) : List V → Hp → VK → Prop := fun xs H Q => rIsi K xs H Q ∨ rIsiT K xs H Q ∨ rIsiK K xs H Q
theorem call_isiAll : CallR X (.builtin "isinstance") (rIsiAll X.K) := call_isi.or (call_isiT.or call_isiK)
theorem isi_kit {K : PySem.W.Frag} {x : D} {T : String} (h1 : x.tyN.isSome = true) (h2 : T ∈ tyNames) : ∃ a, x.tyN = some a ∧ PySem.W.kitOne K (.type a) (.type T) = some (x.isTy T) := by
  cases e : x.tyN with
  | none => rw [e] at h1; cases h1
  | some a =>
    refine ⟨a, rfl, ?_⟩
    have z : x.isTy T = subTy a T := by unfold D.isTy; rw [e]
    rw [z]
    exact kit_ty (kit_tab a (D.tyN_mem e) T h2)
theorem isi_one {K : PySem.W.Frag} {S H : Hp} {Q : VK} {x : D} {v : V} {T : String} (e : Same S H) (r : Rep K S v x) (h1 : x.tyN.isSome = true) (h2 : T ∈ tyNames) (q : Q (.bl (x.isTy T)) H) : rIsi K [v, .ty T] H Q := by
  obtain ⟨a, ea, hk⟩ := isi_kit (K := K) h1 h2
  exact ⟨v, .ty T, .type a, .type T, x.isTy T, rfl, .ty T, r.tyx e ea, hk, q⟩
theorem kit_two {K : PySem.W.Frag} {a T T' : String} {b b' : Bool} (hk : PySem.W.kitOne K (.type a) (.type T) = some b) (hk' : PySem.W.kitOne K (.type a) (.type T') = some b') : PySem.W.kitAny K (.type a) [.type T, .type T'] = some (b || b') :=
  kitAny_cons hk (fun q => by rw [q, Bool.false_or]; exact kitAny_cons hk' (fun q2 => by rw [q2]; exact kitAny_nil) (fun q2 => q2)) (fun q => by rw [q]; rfl)
theorem isi_two {K : PySem.W.Frag} {S H : Hp} {Q : VK} {x : D} {v : V} {T T' : String} {tp : Addr} (e : Same S H) (r : Rep K S v x) (h1 : x.tyN.isSome = true) (h2 : T ∈ tyNames) (h3 : T' ∈ tyNames) (ht : TupAt K S tp [.ty T, .ty T']) (q : Q (.bl (x.isTy T || x.isTy T')) H) :
    rIsiT K [v, .ref tp] H Q ∨ rIsiK K [v, .ref tp] H Q := by
  obtain ⟨a, ea, hk⟩ := isi_kit (K := K) h1 h2
  obtain ⟨a', ea', hk'⟩ := isi_kit (K := K) h1 h3
  rw [ea] at ea'
  cases ea'
  have hz := kit_two hk hk'
  rcases ht with ht | ⟨o, its, n, k, c, d, sz, rv⟩
  · exact .inl ⟨v, tp, [.ty T, .ty T'], .type a, [.type T, .type T'], _, rfl, e _ _ ht, .cons (.ty T) (.cons (.ty T') .nil), r.tyx e ea, hz, q⟩
  · obtain ⟨us, hu⟩ : ∃ us, us = its.toList := ⟨_, rfl⟩
    rw [← hu] at rv
    cases rv with
    | cons r1 rv =>
      cases rv with
      | cons r2 rv =>
        cases rv
        cases r1
        cases r2
        obtain ⟨oc, od, dt, sl⟩ := o
        simp only at c d
        subst c d
        have hi : its = [Value.type T, Value.type T'].toArray := by rw [hu]
        rw [hi] at k
        exact .inr ⟨v, tp, od, [.type T, .type T'], n, sl, .type a, _, rfl, k, r.tyx e ea, hz, q⟩
theorem cd_isi : CallD X.K (rIsiAll X.K) fIsi := by
  intro RK g S H σ ρ xs vs k Qh R r h hq
  unfold fIsi at h
  split at h
  · obtain ⟨h1, h2, h3⟩ := h
    cases r with
    | cons r1 r2 =>
      cases r2 with
      | cons r2 r3 =>
        cases r3
        cases r2
        exact .inl (isi_one R.sub r1 h1 h2 (hq _ H S _ R (Same.refl S) (.bl _) h3))
  · obtain ⟨h1, h2, h3, h4⟩ := h
    cases r with
    | cons r1 r2 =>
      cases r2 with
      | cons r2 r3 =>
        cases r3
        cases r2 with
        | tup a1 a2 =>
          cases a2 with
          | cons b1 a2 =>
            cases a2 with
            | cons b2 a2 =>
              cases a2
              cases b1
              cases b2
              exact .inr (isi_two R.sub r1 h1 h2 h3 a1 (hq _ H S _ R (Same.refl S) (.bl _) h4))
  · exact h.elim
end
end DL
/-! DL8: subscripts, slices, looks at an own list -/
namespace DL
open PySem PySem.Spec PyProof.Rows L2

/-! ### subscripts -/
def fIx : D → D → (D → Prop) → Prop
  | .lst xs, .int i, k => ∃ z, atI xs i = some z ∧ k z
  | .tup xs, .int i, k => ∃ z, atI xs i = some z ∧ k z
  | .str y, .int i, k => y.length ≤ sizeLine ∧ ∃ c, atI y.cps.toList i = some c ∧ k (.str ⟨#[c]⟩)
  | _, _, _ => False
theorem Reps.at' {K : PySem.W.Frag} {S : Hp} {xs : List V} {ds : List D} {i : Int} {z : D} (h : Reps K S xs ds) (e : atI ds i = some z) : ∃ v, atI xs i = some v ∧ Rep K S v z := by
  unfold atI at e ⊢
  rw [h.length]
  cases q : ixN ds.length i with
  | none => rw [q] at e; cases e
  | some j => rw [q] at e; exact h.get' e
section
variable {X : Cx} {RK : Res → Prop} {W : WX} {pos p1 : Pos} {a b e : Expr} {da db : DT} {x : Str}
theorem opd_ix : OpD X.K (rIx X.K) fIx := by
  intro RK g S H σ ρ x y v u k Qh R rx ry h hq
  match x, y, h with
  | .lst xs, .int i, ⟨z, h1, h2⟩ =>
    cases ry
    cases rx with
    | lst a1 a2 =>
      obtain ⟨w, e1, e2⟩ := a2.at' h1
      exact .inl ⟨_, _, i, w, rfl, rfl, SqL.of (R.sub _ _ a1), e1, hq _ H S _ R (Same.refl S) e2 h2⟩
  | .tup xs, .int i, ⟨z, h1, h2⟩ =>
    cases ry
    cases rx with
    | tup a1 a2 =>
      obtain ⟨w, e1, e2⟩ := a2.at' h1
      exact .inr (.inl ⟨_, _, i, w, rfl, rfl, (TupAt.up R.sub a1).sq, e1, hq _ H S _ R (Same.refl S) e2 h2⟩)
  | .str y, .int i, ⟨h0, c, h1, h2⟩ =>
    cases ry
    cases rx
    exact .inr (.inr ⟨y, i, c, rfl, rfl, h0, h1, hq _ H S _ R (Same.refl S) (.str _) h2⟩)
theorem de_ix (ha : DE X RK W a da) (hb : DE X RK W b db) (hs : PlainIx b := by intro _ _; rfl) : DE X RK W (.Subscript a b pos) (dBin fIx da db) := pe_weak (pe_ix ix_seq ha hb hs) (lift_bin opd_ix)
/-- x[e], x an own list or data -/
def dIxN (i : Nat) (db : DT) : DT := fun E ρ Q => match ρ[i]? with
  | some (.own _ _) => db E ρ fun y ρ1 => match ρ1[i]?, y with
    | some (.own _ ds), .int k => ∃ z, atI ds k = some z ∧ Q z ρ1
    | _, _ => False
  | some (.dat d) => db E ρ fun y ρ1 => fIx d y fun z => Q z ρ1
  | _ => False
theorem de_ixN (i : Nat) (hb : DE X RK W b db) (hN : X.N[i]? = some x := by rfl) (hv : Vis X.env.scope x := by first | exact Or.inl rfl | exact Or.inr (Or.inl rfl) | exact Or.inr (Or.inr rfl)) (hd : (x == ("__debug__" : Str)) = false := by decide)
    (hcd : (x == ("__classdict__" : Str)) = false := by decide) (hs : PlainIx b := by intro _ _; rfl) : DE X RK W (.Subscript (.Name x p1) b pos) (dIxN i db) := pe_weak (pe_ix ix_seq (pe_var hN hv hd hcd) hb hs) (by
  rintro σ H Qh ⟨g, S, ρ, Q, E, R, h, hq, hx⟩
  unfold dIxN at h
  cases w : ρ[i]? with
  | none => simp only [w] at h
  | some c =>
    cases c with
    | own p ds =>
      simp only [w] at h
      obtain ⟨z1, z2, z3, xs, z4, z5⟩ := R.cell i _ w
      refine ⟨_, z1, g, S, ρ, _, E, R, h, fun v H1 S1 ρ1 y R1 e1 r1 q1 => ?_, hx⟩
      cases w1 : ρ1[i]? with
      | none => simp only [w1] at q1
      | some c1 =>
        cases c1 with
        | own p' ds' =>
          cases y with
          | int k =>
            simp only [w1] at q1
            cases r1
            obtain ⟨y1, y2, y3, xs', y4, y5⟩ := R1.cell i _ w1
            have ep : p' = p := by rw [z1] at y1; cases y1; rfl
            subst ep
            obtain ⟨z, q2, q3⟩ := q1
            obtain ⟨u, q4, q5⟩ := y5.at' q2
            exact .inl ⟨_, _, k, u, rfl, rfl, SqL.of y4, q4, hq _ H1 S1 ρ1 z R1 e1 q5 q3⟩
          | _ => simp only [w1] at q1
        | _ => simp only [w1] at q1
    | dat d =>
      simp only [w] at h
      obtain ⟨v, z1, z2⟩ := R.cell i _ w
      refine ⟨_, z1, g, S, ρ, _, E, R, h, fun u H1 S1 ρ1 y R1 e1 r1 q1 => ?_, hx⟩
      exact opd_ix RK g S1 H1 σ ρ1 d y v u _ Qh R1 (z2.up e1) r1 q1 fun w H3 S3 z R3 e3 r3 k3 => hq w H3 S3 ρ1 z R3 (e1.trans e3) r3 k3
    | _ => simp only [w] at h)
/-- len(x), x an own list or data -/
def dLenN (i : Nat) : DT := fun _ ρ Q => match ρ[i]? with
  | some (.own _ ds) => Q (.int ds.length) ρ
  | some (.ownK _ ks) => Q (.int ks.length) ρ
  | some (.dat d) => fLen [d] fun z => Q z ρ
  | _ => False
theorem de_lenN {p2 : Pos} (i : Nat) (hm : X.mg "len" = none) (hg : Gl X "len" := by rfl) (hN : X.N[i]? = some x := by rfl) (hv : Vis X.env.scope x := by first | exact Or.inl rfl | exact Or.inr (Or.inl rfl) | exact Or.inr (Or.inr rfl)) (hd : (x == ("__debug__" : Str)) = false := by decide)
    (hcd : (x == ("__classdict__" : Str)) = false := by decide) (hs : starEach [.Name x p1] X.env = (false, eval (.Name x p1) X.env) :: starEach [] X.env := by rfl) : DE X RK W (.Call (.Name "len" p2) [.Name x p1] [] pos) (dLenN i) :=
  pe_weak (pe_callB call_lenAll hg hm PySem.boot_len (pa_cons (pe_var hN hv hd hcd) pa_nil hs) (by decide) (by decide) hs (by rfl)) (by
  rintro σ H Qh ⟨g, S, ρ, Q, E, R, h, hq, hx⟩
  unfold dLenN at h
  cases w : ρ[i]? with
  | none => simp only [w] at h
  | some c =>
    cases c with
    | own p ds =>
      simp only [w] at h
      obtain ⟨z1, z2, z3, xs, z4, z5⟩ := R.cell i _ w
      exact ⟨_, z1, .inl ⟨_, _, rfl, .inl ⟨_, SqL.of z4, rfl⟩, hq _ H S ρ _ R (Same.refl S) (.int _) (by rw [z5.length]; exact h)⟩⟩
    | ownK p ks =>
      simp only [w] at h
      obtain ⟨z1, z2, z3, xs, z4, z5, z6⟩ := R.cell i _ w
      refine ⟨_, z1, .inr ⟨_, _, rfl, z4, hq _ H S ρ _ R (Same.refl S) (.int _) ?_⟩⟩
      have e := congrArg List.length z5
      rw [List.length_map, List.length_map] at e
      rw [e]; exact h
    | dat d =>
      simp only [w] at h
      obtain ⟨v, z1, z2⟩ := R.cell i _ w
      exact ⟨_, z1, cd_len RK g S H σ ρ [d] [v] _ Qh R (.one z2) h fun w H3 S3 z R3 e3 r3 k3 => hq w H3 S3 ρ z R3 e3 r3 k3⟩
    | _ => simp only [w] at h)
/-- e in x, x an own list of flat things, or data -/
def dInN (f : D → D → (D → Prop) → Prop) (da : DT) (i : Nat) : DT := fun E ρ Q => da E ρ fun y ρ1 => match ρ1[i]? with
  | some (.own _ ds) => y.flat = true ∧ ds.all D.flat = true ∧ f y (.lst ds) fun z => Q z ρ1
  | some (.dat d) => f y d fun z => Q z ρ1
  | _ => False
theorem lift_inN {neg : Bool} {r : R2} {f : D → D → (D → Prop) → Prop} (hf : OpD X.K r f) (hr : ∀ v u H Q, rIn X.K neg v u H Q → r v u H Q) (hfl : ∀ y ds k, y.flat = true → ds.all D.flat = true → f y (.lst ds) k → k (.bl (if neg then !D.mem y ds else D.mem y ds))) (i : Nat) :
    ∀ σ H Q, liftE X.K RK W (dInN f da i) σ H Q → tOp r (liftE X.K RK W da) (tVar i) σ H Q := by
  rintro σ H Qh ⟨g, S, ρ, Q, E, R, h, hq, hx⟩
  refine ⟨g, S, ρ, _, E, R, h, fun v H1 S1 ρ1 y R1 e1 r1 q1 => ?_, hx⟩
  cases w : ρ1[i]? with
  | none => simp only [w] at q1
  | some c =>
    cases c with
    | own p ds =>
      simp only [w] at q1
      obtain ⟨z1, z2, z3, xs, z4, z5⟩ := R1.cell i _ w
      refine ⟨_, z1, hr _ _ _ _ ?_⟩
      obtain ⟨q1, q2, q3⟩ := q1
      have q4 := hfl y ds _ q1 q2 q3
      obtain ⟨a1, a2⟩ := inV_mem r1 q1 z5 q2
      refine ⟨p, xs, rfl, .inl (SqL.of z4), flatV_of r1 q1, a2, ?_⟩
      rw [a1]
      exact hq _ H1 S1 ρ1 _ R1 e1 (.bl _) q4
    | dat d =>
      simp only [w] at q1
      obtain ⟨u, z1, z2⟩ := R1.cell i _ w
      exact ⟨_, z1, hf RK g S1 H1 σ ρ1 y d v u _ Qh R1 r1 z2 q1 fun w H3 S3 z R3 e3 r3 k3 => hq w H3 S3 ρ1 z R3 (e1.trans e3) r3 k3⟩
    | _ => simp only [w] at q1
theorem hfl_in : ∀ y ds k, D.flat y = true → ds.all D.flat = true → fIn y (.lst ds) k → k (.bl (if false then !D.mem y ds else D.mem y ds)) := fun y ds k _ _ h => h.2
theorem hfl_notIn : ∀ y ds k, D.flat y = true → ds.all D.flat = true → fNotIn y (.lst ds) k → k (.bl (if true then !D.mem y ds else D.mem y ds)) := fun y ds k _ _ h => h.2
theorem de_inN (i : Nat) (hu : X.A.units + 65 < cLine) (ha : DE X RK W a da) (hN : X.N[i]? = some x := by rfl) (hv : Vis X.env.scope x := by first | exact Or.inl rfl | exact Or.inr (Or.inl rfl) | exact Or.inr (Or.inr rfl)) (hd : (x == ("__debug__" : Str)) = false := by decide)
    (hcd : (x == ("__classdict__" : Str)) = false := by decide) (hm : behindInMarks .In (.Name x p1) = false := by rfl) : DE X RK W (.Compare a [.In] [.Name x p1] pos) (dInN fIn da i) :=
  pe_weak (pe_cmpR (op_inAll hu) ha (pe_var hN hv hd hcd) hm) (lift_inN (neg := false) opd_in (fun _ _ _ _ h => .inl h) hfl_in i)
theorem de_notInN (i : Nat) (hu : X.A.units + 65 < cLine) (ha : DE X RK W a da) (hN : X.N[i]? = some x := by rfl) (hv : Vis X.env.scope x := by first | exact Or.inl rfl | exact Or.inr (Or.inl rfl) | exact Or.inr (Or.inr rfl)) (hd : (x == ("__debug__" : Str)) = false := by decide)
    (hcd : (x == ("__classdict__" : Str)) = false := by decide) (hm : behindInMarks .NotIn (.Name x p1) = false := by rfl) : DE X RK W (.Compare a [.NotIn] [.Name x p1] pos) (dInN fNotIn da i) :=
  pe_weak (pe_cmpR (op_notInAll hu) ha (pe_var hN hv hd hcd) hm) (lift_inN (neg := true) opd_notIn (fun _ _ _ _ h => .inl h) hfl_notIn i)
theorem dt_inN (i : Nat) (hu : X.A.units + 65 < cLine) (ha : DE X RK W a da) (hN : X.N[i]? = some x := by rfl) (hv : Vis X.env.scope x := by first | exact Or.inl rfl | exact Or.inr (Or.inl rfl) | exact Or.inr (Or.inr rfl)) (hd : (x == ("__debug__" : Str)) = false := by decide)
    (hcd : (x == ("__classdict__" : Str)) = false := by decide) (hm : behindInMarks .In (.Name x p1) = false := by rfl) : DTs X RK W (.Compare a [.In] [.Name x p1] pos) (dTst (dInN fIn da i)) :=
  pt_weak (pt_cmpR (op_inAll hu) ha (pe_var hN hv hd hcd) hm) fun σ H Q h => lift_inN (neg := false) opd_in (fun _ _ _ _ h => .inl h) hfl_in i σ H _ (lift_tst σ H Q h)
theorem dt_notInN (i : Nat) (hu : X.A.units + 65 < cLine) (ha : DE X RK W a da) (hN : X.N[i]? = some x := by rfl) (hv : Vis X.env.scope x := by first | exact Or.inl rfl | exact Or.inr (Or.inl rfl) | exact Or.inr (Or.inr rfl)) (hd : (x == ("__debug__" : Str)) = false := by decide)
    (hcd : (x == ("__classdict__" : Str)) = false := by decide) (hm : behindInMarks .NotIn (.Name x p1) = false := by rfl) : DTs X RK W (.Compare a [.NotIn] [.Name x p1] pos) (dTst (dInN fNotIn da i)) :=
  pt_weak (pt_cmpR (op_notInAll hu) ha (pe_var hN hv hd hcd) hm) fun σ H Q h => lift_inN (neg := true) opd_notIn (fun _ _ _ _ h => .inl h) hfl_notIn i σ H _ (lift_tst σ H Q h)
end

/-! ### slices -/
abbrev DO := EK → Rho → (Option Int → Rho → Prop) → Prop
def liftO (K : PySem.W.Frag) (RK : Res → Prop) (W : WX) (d : DO) : TO := fun σ H Qh => ∃ g S ρ Q E, ER K RK g S H σ ρ ∧ d E ρ Q ∧ (∀ o H' S' ρ', ER K RK g S' H' σ ρ' → Same S S' → Q o ρ' → Qh o H') ∧ ExC K RK W g S E
variable (X : Cx) (RK : Res → Prop) (W : WX) in
abbrev DOp (e : Option Expr) (d : DO) : Prop := PO X e (liftO X.K RK W d)
@[simp] def dNoP : DO := fun _ ρ Q => Q none ρ
def dPart (d : DT) : DO := fun E ρ Q => d E ρ fun x ρ1 => match x with
  | .int i => Q (some i) ρ1
  | _ => False
/-- what is cut out -/
def cutD (xs : List D) (lo hi : Option Int) : List D := (xs.drop (HT.sIx xs.length 0 lo)).take (HT.sIx xs.length xs.length hi - HT.sIx xs.length 0 lo)
def fSl : D → Option Int → Option Int → (D → Prop) → Prop
  | .lst xs, lo, hi, k => k (.lst (cutD xs lo hi))
  | .tup xs, lo, hi, k => k (.tup (cutD xs lo hi))
  | .str z, lo, hi, k => z.length ≤ sizeLine ∧ k (.str (cutS z lo hi))
  | _, _, _, _ => False
@[simp] def dSl (d : DT) (l h : DO) : DT := fun E ρ Q => d E ρ fun x ρ1 => l E ρ1 fun lo ρ2 => h E ρ2 fun hi ρ3 => fSl x lo hi fun z => Q z ρ3
theorem Reps.cut {K : PySem.W.Frag} {S : Hp} {xs : List V} {ds : List D} (h : Reps K S xs ds) (lo hi : Option Int) : Reps K S (cutV xs lo hi) (cutD ds lo hi) := by
  unfold cutV cutD
  rw [h.length]
  exact (h.drop _).take _
theorem cutD_all {xs : List D} {lo hi : Option Int} (h : HT.sIx xs.length 0 lo = 0 ∧ HT.sIx xs.length xs.length hi = xs.length) : cutD xs lo hi = xs := by
  unfold cutD
  rw [h.1, h.2, List.drop_zero, Nat.sub_zero, List.take_length]
section
variable {X : Cx} {RK : Res → Prop} {W : WX} {pos p2 p1 : Pos} {a b e : Expr} {da db : DT} {x : Str} {lo hi : Option Expr} {l h : DO}
theorem do_none : DOp X RK W none dNoP := ⟨fun pins s σ H Q I q => po_none.run pins s σ H Q I (by
  obtain ⟨g, S, ρ, Q', E, R, h, hq, hx⟩ := q
  exact hq none H S ρ R (Same.refl S) h)⟩
theorem do_some (he : DE X RK W e da) : DOp X RK W (some e) (dPart da) := ⟨fun pins s σ H Q I q => (po_some he).run pins s σ H Q I (by
  obtain ⟨g, S, ρ, Q', E, R, h, hq, hx⟩ := q
  refine ⟨g, S, ρ, _, E, R, h, fun v H1 S1 ρ1 x R1 e1 r1 q1 => ?_, hx⟩
  cases x with
  | int i => cases r1; exact ⟨i, rfl, hq (some i) H1 S1 ρ1 R1 e1 q1⟩
  | _ => exact q1.elim)⟩
def rSlAll (K : PySem.W.Frag) : V → Option Int → Option Int → Hp → VK → Prop := fun x lo hi H Q => rSlL K x lo hi H Q ∨ rSlA K x lo hi H Q ∨ rSlS x lo hi H Q
theorem sl_all : SlR X (rSlAll X.K) := sl_list.or (sl_tupA.or sl_str)
theorem de_slice (he : DE X RK W e da) (hl : DOp X RK W lo l) (hh : DOp X RK W hi h) : DE X RK W (.Subscript e (.Slice lo hi none p2) pos) (dSl da l h) := pe_weak (pe_slice sl_all he hl hh) (by
  rintro σ H Qh ⟨g, S, ρ, Q, E, R, h, hq, hx⟩
  refine ⟨g, S, ρ, _, E, R, h, fun v H1 S1 ρ1 x R1 e1 r1 q1 => ⟨g, S1, ρ1, _, E, R1, q1, fun o H2 S2 ρ2 R2 e2 q2 => ⟨g, S2, ρ2, _, E, R2, q2, fun o' H3 S3 ρ3 R3 e3 q3 => ?_, hx.up (e1.trans e2)⟩, hx.up e1⟩, hx⟩
  have e13 := e2.trans e3
  have r3 := r1.up e13
  cases x with
  | lst xs =>
    cases r3 with
    | lst a1 a2 =>
      refine .inl ⟨_, _, rfl, SqL.of (R3.sub _ _ a1), fun p hp => ?_⟩
      obtain ⟨R4, e4⟩ := R3.alloc (o := .lst _) hp
      exact hq _ _ _ ρ3 _ R4 ((e1.trans e13).trans e4) (.lst upd_same ((a2.cut o o').up e4)) q3
  | tup xs =>
    cases r3 with
    | tup a1 a2 =>
      refine .inr (.inl ⟨_, _, rfl, (TupAt.up R3.sub a1).sq, fun z => ?_, fun z p hp => ?_⟩)
      · rw [a2.length] at z
        have q4 : Q (.tup (cutD xs o o')) ρ3 := q3
        rw [cutD_all z] at q4
        exact hq _ H3 S3 ρ3 _ R3 (e1.trans e13) (.tup a1 a2) q4
      · obtain ⟨R4, e4⟩ := R3.alloc (o := .tup _) hp
        exact hq _ _ _ ρ3 _ R4 ((e1.trans e13).trans e4) (.tup (.inl upd_same) ((a2.cut o o').up e4)) q3
  | str z =>
    cases r3
    exact .inr (.inr ⟨z, rfl, q3.1, hq _ H3 S3 ρ3 _ R3 (e1.trans e13) (.str _) q3.2⟩)
  | _ => exact q3.elim)
/-- a list's slice, fresh -/
@[simp] def dfSl (d : DT) (l h : DO) : DF := fun E ρ Q => d E ρ fun x ρ1 => l E ρ1 fun lo ρ2 => h E ρ2 fun hi ρ3 => match x with
  | .lst xs => Q (cutD xs lo hi) ρ3
  | _ => False
theorem df_slice (he : DE X RK W e da) (hl : DOp X RK W lo l) (hh : DOp X RK W hi h) : DFr X RK W (.Subscript e (.Slice lo hi none p2) pos) (dfSl da l h) := pe_weak (pe_slice sl_list he hl hh) (by
  rintro σ H Qh ⟨g, S, ρ, Q, E, R, h, hq, hx⟩
  refine ⟨g, S, ρ, _, E, R, h, fun v H1 S1 ρ1 x R1 e1 r1 q1 => ⟨g, S1, ρ1, _, E, R1, q1, fun o H2 S2 ρ2 R2 e2 q2 => ⟨g, S2, ρ2, _, E, R2, q2, fun o' H3 S3 ρ3 R3 e3 q3 => ?_, hx.up (e1.trans e2)⟩, hx.up e1⟩, hx⟩
  have e13 := e2.trans e3
  have r3 := r1.up e13
  cases x with
  | lst xs =>
    cases r3 with
    | lst a1 a2 =>
      refine ⟨_, _, rfl, SqL.of (R3.sub _ _ a1), fun p hp => ?_⟩
      obtain ⟨f1, f2, f3, f4⟩ := R3.fresh hp
      exact hq p _ _ S3 ρ3 _ (R3.alloc0 hp) (e1.trans e13) upd_same f2 f1 f4 (a2.cut o o') q3
  | _ => exact q3.elim)

/-! ### list(range(..)), tuple(range(..)) -/
def rng (a b : Int) : List Int := (List.range (b - a).toNat).map fun (i : Nat) => a + (i : Int)
theorem rgV_rng (a b : Int) : rgV a b = (rng a b).map V.int := by unfold rgV rng; rw [List.map_map]; rfl
def dRg1 (d : DT) : EK → Rho → (Int → Int → Rho → Prop) → Prop := fun E ρ Q => d E ρ fun x ρ1 => match x with
  | .int n => Q 0 n ρ1
  | _ => False
def dRg2 (d d' : DT) : EK → Rho → (Int → Int → Rho → Prop) → Prop := fun E ρ Q => d E ρ fun x ρ1 => d' E ρ1 fun y ρ2 => match x, y with
  | .int n, .int m => Q n m ρ2
  | _, _ => False
abbrev DRg := EK → Rho → (Int → Int → Rho → Prop) → Prop
def liftRg (K : PySem.W.Frag) (RK : Res → Prop) (W : WX) (d : DRg) : L2.St → Hp → (Int → Int → Hp → Prop) → Prop := fun σ H Qh => ∃ g S ρ Q E, ER K RK g S H σ ρ ∧ d E ρ Q ∧ (∀ a b H' S' ρ', ER K RK g S' H' σ ρ' → Same S S' → Q a b ρ' → Qh a b H') ∧ ExC K RK W g S E
variable (X : Cx) (RK : Res → Prop) (W : WX) in
abbrev DRng (e : Expr) (d : DRg) : Prop := PRg X e (liftRg X.K RK W d)
theorem prg_weak {t t' : L2.St → Hp → (Int → Int → Hp → Prop) → Prop} (h : PRg X e t) (i : ∀ σ H Q, t' σ H Q → t σ H Q) : PRg X e t' := fun pins s σ H Q I q => h pins s σ H Q I (i σ H Q q)
theorem dr_1 (hm : X.mg "range" = none) (ha : DE X RK W a da) (hg : Gl X "range" := by rfl) (na : starEach [a] X.env = (false, eval a X.env) :: starEach [] X.env := by rfl) : DRng X RK W (.Call (.Name "range" p1) [a] [] pos) (dRg1 da) := prg_weak (prg_1 hg hm ha na) (by
  rintro σ H Qh ⟨g, S, ρ, Q, E, R, h, hq, hx⟩
  refine ⟨g, S, ρ, _, E, R, h, fun v H1 S1 ρ1 x R1 e1 r1 q1 => ?_, hx⟩
  cases x with
  | int n => cases r1; exact ⟨n, rfl, hq 0 n H1 S1 ρ1 R1 e1 q1⟩
  | _ => exact q1.elim)
theorem dr_2 (hm : X.mg "range" = none) (ha : DE X RK W a da) (hb : DE X RK W b db) (hg : Gl X "range" := by rfl) (na : starEach [a, b] X.env = (false, eval a X.env) :: starEach [b] X.env := by rfl)
    (nb : starEach [b] X.env = (false, eval b X.env) :: starEach [] X.env := by rfl) (hp : (backTo pos (starEach [b] X.env)).any (·.1) = false := by rfl) : DRng X RK W (.Call (.Name "range" p1) [a, b] [] pos) (dRg2 da db) := prg_weak (prg_2 hg hm ha hb na nb hp) (by
  rintro σ H Qh ⟨g, S, ρ, Q, E, R, h, hq, hx⟩
  refine ⟨g, S, ρ, _, E, R, h, fun v H1 S1 ρ1 x R1 e1 r1 q1 => ⟨g, S1, ρ1, _, E, R1, q1, fun u H2 S2 ρ2 y R2 e2 r2 q2 => ?_, hx.up e1⟩, hx⟩
  cases x with
  | int n =>
    cases y with
    | int m => cases r1; cases r2; exact ⟨n, m, rfl, rfl, hq n m H2 S2 ρ2 R2 (e1.trans e2) q2⟩
    | _ => exact q2.elim
  | _ => cases y <;> exact q2.elim)
@[simp] def dfLstRg (d : DRg) : DF := fun E ρ Q => d E ρ fun a b ρ1 => RgOk a b ∧ Q ((rng a b).map D.int) ρ1
@[simp] def dTupRg (d : DRg) : DT := fun E ρ Q => d E ρ fun a b ρ1 => RgOk a b ∧ Q (.tup ((rng a b).map D.int)) ρ1
theorem df_listRg {d : DRg} (hm : X.mg "list" = none) (he : DRng X RK W e d) (hc : X.calm = true := by rfl) (hg : Gl X "list" := by rfl) (na : starEach [e] X.env = (false, eval e X.env) :: starEach [] X.env := by rfl) : DFr X RK W (.Call (.Name "list" p1) [e] [] pos) (dfLstRg d) := pe_weak (pe_listRg hc hg hm he na) (by
  rintro σ H Qh ⟨g, S, ρ, Q, E, R, h, hq, hx⟩
  refine ⟨g, S, ρ, _, E, R, h, fun a b H1 S1 ρ1 R1 e1 q1 => ⟨q1.1, fun p hp => ?_⟩, hx⟩
  obtain ⟨f1, f2, f3, f4⟩ := R1.fresh hp
  exact hq p _ _ S1 ρ1 _ (R1.alloc0 hp) e1 upd_same f2 f1 f4 (by rw [rgV_rng]; exact Reps.of_ints) q1.2)
theorem de_tupRg {d : DRg} (hm : X.mg "tuple" = none) (he : DRng X RK W e d) (hc : X.calm = true := by rfl) (hg : Gl X "tuple" := by rfl) (na : starEach [e] X.env = (false, eval e X.env) :: starEach [] X.env := by rfl) : DE X RK W (.Call (.Name "tuple" p1) [e] [] pos) (dTupRg d) := pe_weak (pe_tupRg hc hg hm he na) (by
  rintro σ H Qh ⟨g, S, ρ, Q, E, R, h, hq, hx⟩
  refine ⟨g, S, ρ, _, E, R, h, fun a b H1 S1 ρ1 R1 e1 q1 => ⟨q1.1, fun p hp => ?_⟩, hx⟩
  obtain ⟨R2, e2⟩ := R1.alloc (o := .tup _) hp
  exact hq _ _ _ ρ1 _ R2 (e1.trans e2) (.tup (.inl upd_same) (by rw [rgV_rng]; exact Reps.of_ints)) q1.2)
end
end DL
/-! DL8z: zip of rows of any kinds, a list and a tuple, say -/
namespace DL
open PySem PySem.Spec PyProof.Rows L2
/-- an iterator at the place i of a row, which is a tuple or a list -/
def RowIt (t : Bool) (h : Heap) (it l : Addr) (i : Nat) : Prop := match t with
  | true => h.IsTupleIter it l i
  | false => h.IsListIter it l i
def RowAt (t : Bool) (h : Heap) (l : Addr) (xs : Array Value) : Prop := match t with
  | true => h.IsTuple l xs
  | false => h.IsList l xs
theorem RowIt.extBut {t : Bool} {h h' : Heap} {a b l : Addr} {i : Nat} (x : RowIt t h a l i) (q : Heap.ExtBut b h h') (n : a ≠ b) : RowIt t h' a l i := by
  cases t
  · exact Heap.IsListIter.extBut x q n
  · exact Heap.IsTupleIter.extBut x q n
theorem RowAt.extBut {t : Bool} {h h' : Heap} {a b : Addr} {xs : Array Value} (x : RowAt t h a xs) (q : Heap.ExtBut b h h') (n : a ≠ b) : RowAt t h' a xs := by
  cases t
  · exact Heap.IsList.extBut x q n
  · exact Heap.IsTuple.extBut x q n
theorem RowIt.at {t : Bool} {h h' : Heap} {a l : Addr} {i : Nat} (x : RowIt t h a l i) (e : ∀ o, h.get? a = some o → h'.get? a = some o) : RowIt t h' a l i := by
  cases t
  · exact Heap.IsListIter.at x e
  · exact Heap.IsTupleIter.at x e
theorem RowIt.obj {t : Bool} {h : Heap} {a l : Addr} {i : Nat} (x : RowIt t h a l i) : ∃ o, h.get? a = some o ∧ ∃ fs, o.data = .fields fs := by
  cases t
  · obtain ⟨o, e, _, d⟩ := x; exact ⟨o, e, _, d⟩
  · obtain ⟨o, e, _, d⟩ := x; exact ⟨o, e, _, d⟩
section
variable {prog : Program} {w : World} {A : Around} {E : Value → Shared → Prop} {s : Shared}
theorem row_next {t : Bool} {it l : Addr} {i : Nat} {items : Array Value} {x : Value} {Q : Value → Shared → Prop} (u : RowIt t s.heap it l i) (v : RowAt t s.heap l items) (e : items[i]? = some x)
    (k : ∀ h', RowIt t h' it l (i + 1) → Heap.SameBut it s.heap h' → Q x { s with heap := h' }) : wpAny (model prog w) A (Builtin.SmallTypes.nextOf (.ref it)) Q E s := by
  cases t
  · exact wpAny_nextOf_list_item u v e k
  · exact RZ.nextOf_tuple_item u v e k
theorem row_end {t : Bool} {it l : Addr} {i : Nat} {items : Array Value} {Q : Value → Shared → Prop} (na : A.handled = none) (u : RowIt t s.heap it l i) (v : RowAt t s.heap l items) (e : items[i]? = none)
    (k : ∀ h' e, Heap.ExtBut it s.heap h' → (∃ o, h'.get? e = some o ∧ o.cls = .type "StopIteration") → E (.ref e) { s with heap := h' }) : wpAny (model prog w) A (Builtin.SmallTypes.nextOf (.ref it)) Q E s := by
  cases t
  · exact wpAny_nextOf_list_end na u v e k
  · exact RZ.nextOf_tuple_end na u v e k
theorem zipM_item {t1 t2 : Bool} {z TI TO i1 i2 l1 l2 : Addr} {k1 k2 : Nat} {xs ys : Array Value} {x y a b : Value} {Q : Value → Shared → Prop} (D : ZipApart z TI TO i1 i2 l1 l2)
    (wz : IsZip s.heap z TI TO .none) (wi : IsPair s.heap TI (.ref i1) (.ref i2)) (wo : IsPair s.heap TO a b)
    (w1 : RowIt t1 s.heap i1 l1 k1) (w2 : RowIt t2 s.heap i2 l2 k2) (v1 : RowAt t1 s.heap l1 xs) (v2 : RowAt t2 s.heap l2 ys) (ux : xs[k1]? = some x) (uy : ys[k2]? = some y)
    (kq : ∀ h', IsZip h' z TI TO (rawInt s.heap.objs.size) → IsPair h' TO x y → RowIt t1 h' i1 l1 (k1 + 1) → RowIt t2 h' i2 l2 (k2 + 1) → IsPair h' s.heap.objs.size x y → h'.objs.size = s.heap.objs.size + 1 →
      (∀ c o, c ≠ z → c ≠ TO → c ≠ i1 → c ≠ i2 → s.heap.get? c = some o → h'.get? c = some o) → Q (.ref s.heap.objs.size) { s with heap := h' }) :
    wpAny (model prog w) A (Builtin.«zip.__next__» ⟨[.ref z], []⟩) (fun fin s' => ∃ v, fin = .done (.ret v) ∧ Q v s') E s := by
  show wpAny _ _ (field (.ref z) 2 >>= _) _ _ _; refine wpAny_bind (wpAny_field wz rfl (x := .bool false) rfl ?_); show wpAny _ _ (field (.ref z) 3 >>= _) _ _ _
  refine wpAny_bind (wpAny_field wz rfl (x := .ref TI) rfl ?_); refine wpAny_bind (wpAny_seqItems wi rfl ?_); show wpAny _ _ (Builtin.SmallTypes.ownedTupleIsFree (.ref z) >>= _) _ _ _
  refine wpAny_bind ?_; unfold Builtin.SmallTypes.ownedTupleIsFree; refine wpAny_bind (wpAny_field wz rfl (x := .none) rfl (wpAny_pure ?_)); simp only [if_true]
  refine wpAny_bind (wpAny_rule ?_); refine wpAny_bind (wpAny_field wz rfl (x := .ref TO) rfl ?_); refine wpAny_bind (wpAny_setField_rec wz (by simp) fun g₁ hz₁ hs₁ => ?_)
  replace hz₁ : IsZip g₁ z TI TO .ellipsis := hz₁; refine wpAny_bind ?_; simp only [List.zipIdx_cons, List.zipIdx_nil, List.forIn_cons, List.forIn_nil]
  refine wpAny_bind (wpAny_bind (wpAny_onRaise ?_)); show wpAny _ _ (Builtin.SmallTypes.nextOf (.ref i1) >>= _) _ _ _; refine wpAny_bind (row_next (w1.extBut hs₁.extBut D.i1z) (v1.extBut hs₁.extBut D.l1z) ux fun g₂ h1₂ hs₂ => wpAny_pure ?_)
  have hTO₂ : IsPair g₂ TO a b := hs₂.extBut _ _ D.TOi1 (hs₁.extBut _ _ D.TOz wo); refine wpAny_bind (wpAny_seqItems hTO₂ rfl ?_); refine wpAny_bind (wpAny_updateSeq_pair hTO₂ fun g₃ hTO₃ hs₃ => ?_)
  replace hTO₃ : IsPair g₃ TO x b := hTO₃; refine wpAny_bind (wpAny_letGo (wpAny_pure ?_)); refine wpAny_bind (wpAny_bind (wpAny_onRaise ?_)); show wpAny _ _ (Builtin.SmallTypes.nextOf (.ref i2) >>= _) _ _ _
  refine wpAny_bind (row_next (((w2.extBut hs₁.extBut D.i2z).extBut hs₂.extBut D.i12.symm).extBut hs₃.extBut D.TOi2.symm)
    (((v2.extBut hs₁.extBut D.l2z).extBut hs₂.extBut D.l2i1).extBut hs₃.extBut D.l2TO) uy fun g₄ h2₄ hs₄ => wpAny_pure ?_)
  have hTO₄ : IsPair g₄ TO x b := hs₄.extBut _ _ D.TOi2 hTO₃; refine wpAny_bind (wpAny_seqItems hTO₄ rfl ?_); refine wpAny_bind (wpAny_updateSeq_pair hTO₄ fun g₅ hTO₅ hs₅ => ?_)
  replace hTO₅ : IsPair g₅ TO x y := hTO₅; refine wpAny_bind (wpAny_letGo (wpAny_pure (wpAny_pure ?_))); refine wpAny_bind (wpAny_seqItems hTO₅ rfl ?_)
  refine wpAny_bind (wpAny_newTuple ?_); have sz : g₅.objs.size = s.heap.objs.size := by rw [hs₅.1, hs₄.1, hs₃.1, hs₂.1, hs₁.1]
  have hz₅ : IsZip g₅ z TI TO .ellipsis := hs₅.extBut _ _ D.TOz.symm (hs₄.extBut _ _ D.i2z.symm (hs₃.extBut _ _ D.TOz.symm (hs₂.extBut _ _ D.i1z.symm hz₁)))
  have hk₅ : ∀ c o, c ≠ z → c ≠ TO → c ≠ i1 → c ≠ i2 → s.heap.get? c = some o → g₅.get? c = some o := fun c o c1 c2 c3 c4 e =>
    hs₅.extBut _ _ c2 (hs₄.extBut _ _ c4 (hs₃.extBut _ _ c2 (hs₂.extBut _ _ c3 (hs₁.extBut _ _ c1 e))))
  have h1₅ : RowIt t1 g₅ i1 l1 (k1 + 1) := ((h1₂.extBut hs₃.extBut D.TOi1.symm).extBut hs₄.extBut D.i12).extBut hs₅.extBut D.TOi1.symm; have h2₅ : RowIt t2 g₅ i2 l2 (k2 + 1) := h2₄.extBut hs₅.extBut D.TOi2.symm
  have hzlt : z < g₅.objs.size := Heap.lt_size hz₅; have hTOlt : TO < g₅.objs.size := Heap.lt_size hTO₅; have hi1lt : i1 < g₅.objs.size := by obtain ⟨_, e, _⟩ := h1₅.obj; exact Heap.lt_size e
  have hi2lt : i2 < g₅.objs.size := by obtain ⟨_, e, _⟩ := h2₅.obj; exact Heap.lt_size e
  show wpAny _ _ (Builtin.SmallTypes.ownedTupleHandOut (.ref z) (.ref g₅.objs.size) >>= _) _ _ _; refine wpAny_bind ?_; unfold Builtin.SmallTypes.ownedTupleHandOut
  have hz₆ : IsZip (g₅.push { cls := .type "tuple", data := .seq #[x, y] }) z TI TO .ellipsis := Heap.get?_push_of_some _ hz₅; refine wpAny_bind (wpAny_setField_rec hz₆ (by simp) fun g₇ hz₇ hs₇ => ?_)
  replace hz₇ : IsZip g₇ z TI TO (rawInt g₅.objs.size) := hz₇; refine wpAny_setField_rec hz₇ (by simp) fun g₈ hz₈ hs₈ => ?_; replace hz₈ : IsZip g₈ z TI TO (rawInt g₅.objs.size) := hz₈
  have up : ∀ c o, c ≠ z → g₅.get? c = some o → g₈.get? c = some o := fun c o c1 e => hs₈.extBut _ _ c1 (hs₇.extBut _ _ c1 (Heap.get?_push_of_some _ e))
  have hT₈ : IsPair g₈ g₅.objs.size x y := hs₈.extBut _ _ (Nat.ne_of_gt hzlt) (hs₇.extBut _ _ (Nat.ne_of_gt hzlt) (Heap.get?_push_size _ rfl)); have hz8 : g₈.objs.size = g₅.objs.size + 1 := by rw [hs₈.1, hs₇.1, Heap.size_push]
  rw [sz] at hz₈ hT₈ hz8; refine wpAny_pure ⟨_, rfl, ?_⟩; show Q (.ref g₅.objs.size) _; rw [sz]; exact kq g₈ hz₈ (up _ _ D.TOz hTO₅) (h1₅.at fun o e => up _ o D.i1z e) (h2₅.at fun o e => up _ o D.i2z e) hT₈ hz8 fun c o c1 c2 c3 c4 e => up c o c1 (hk₅ c o c1 c2 c3 c4 e)
theorem zipM_end {t1 t2 : Bool} {z TI TO i1 i2 l1 l2 : Addr} {k1 k2 : Nat} {xs ys : Array Value} {a b : Value} {Q : Fin → Shared → Prop} (na : A.handled = none) (D : ZipApart z TI TO i1 i2 l1 l2)
    (wz : IsZip s.heap z TI TO .none) (wi : IsPair s.heap TI (.ref i1) (.ref i2)) (wo : IsPair s.heap TO a b)
    (w1 : RowIt t1 s.heap i1 l1 k1) (w2 : RowIt t2 s.heap i2 l2 k2) (v1 : RowAt t1 s.heap l1 xs) (v2 : RowAt t2 s.heap l2 ys) (uend : xs[k1]? = none ∨ ys[k2]? = none)
    (ke : ∀ h' e, (∀ c o, c ≠ z → c ≠ TO → c ≠ i1 → c ≠ i2 → s.heap.get? c = some o → h'.get? c = some o) → (∃ o, h'.get? e = some o ∧ o.cls = .type "StopIteration") → E (.ref e) { s with heap := h' }) :
    wpAny (model prog w) A (Builtin.«zip.__next__» ⟨[.ref z], []⟩) Q E s := by
  show wpAny _ _ (field (.ref z) 2 >>= _) _ _ _; refine wpAny_bind (wpAny_field wz rfl (x := .bool false) rfl ?_); show wpAny _ _ (field (.ref z) 3 >>= _) _ _ _
  refine wpAny_bind (wpAny_field wz rfl (x := .ref TI) rfl ?_); refine wpAny_bind (wpAny_seqItems wi rfl ?_); show wpAny _ _ (Builtin.SmallTypes.ownedTupleIsFree (.ref z) >>= _) _ _ _
  refine wpAny_bind ?_; unfold Builtin.SmallTypes.ownedTupleIsFree; refine wpAny_bind (wpAny_field wz rfl (x := .none) rfl (wpAny_pure ?_)); simp only [if_true]
  refine wpAny_bind (wpAny_rule ?_); refine wpAny_bind (wpAny_field wz rfl (x := .ref TO) rfl ?_); refine wpAny_bind (wpAny_setField_rec wz (by simp) fun g₁ hz₁ hs₁ => ?_)
  replace hz₁ : IsZip g₁ z TI TO .ellipsis := hz₁; refine wpAny_bind ?_; simp only [List.zipIdx_cons, List.zipIdx_nil, List.forIn_cons, List.forIn_nil]
  refine wpAny_bind (wpAny_bind (wpAny_onRaise ?_)); show wpAny _ _ (Builtin.SmallTypes.nextOf (.ref i1) >>= _) _ _ _
  cases ux : xs[k1]? with
  | none =>
    refine wpAny_bind (row_end na (w1.extBut hs₁.extBut D.i1z) (v1.extBut hs₁.extBut D.l1z) ux fun g₂ e hs₂ he => ?_); obtain ⟨oe, hoe, hce⟩ := he; have hz₂ : IsZip g₂ z TI TO .ellipsis := hs₂ _ _ D.i1z.symm hz₁
    have hez : e ≠ z := fun x => by subst x; rw [hz₂] at hoe; cases hoe; simp at hce
    refine wpAny_setField_rec hz₂ (by simp) fun g₃ _ hs₃ => ke g₃ e (fun c o c1 _ c3 _ x => hs₃.extBut _ _ c1 (hs₂ _ _ c3 (hs₁.extBut _ _ c1 x))) ⟨oe, hs₃.extBut _ _ hez hoe, hce⟩
  | some x =>
    have uy : ys[k2]? = none := by rcases uend with h | h; rw [ux] at h; cases h; exact h
    refine wpAny_bind (row_next (w1.extBut hs₁.extBut D.i1z) (v1.extBut hs₁.extBut D.l1z) ux fun g₂ h1₂ hs₂ => wpAny_pure ?_); have hTO₂ : IsPair g₂ TO a b := hs₂.extBut _ _ D.TOi1 (hs₁.extBut _ _ D.TOz wo)
    refine wpAny_bind (wpAny_seqItems hTO₂ rfl ?_); refine wpAny_bind (wpAny_updateSeq_pair hTO₂ fun g₃ hTO₃ hs₃ => ?_); refine wpAny_bind (wpAny_letGo (wpAny_pure ?_))
    refine wpAny_bind (wpAny_bind (wpAny_onRaise ?_)); show wpAny _ _ (Builtin.SmallTypes.nextOf (.ref i2) >>= _) _ _ _
    refine wpAny_bind (row_end na (((w2.extBut hs₁.extBut D.i2z).extBut hs₂.extBut D.i12.symm).extBut hs₃.extBut D.TOi2.symm)
      (((v2.extBut hs₁.extBut D.l2z).extBut hs₂.extBut D.l2i1).extBut hs₃.extBut D.l2TO) uy fun g₄ e hs₄ he => ?_)
    obtain ⟨oe, hoe, hce⟩ := he; have hz₄ : IsZip g₄ z TI TO .ellipsis := hs₄ _ _ D.i2z.symm (hs₃.extBut _ _ D.TOz.symm (hs₂.extBut _ _ D.i1z.symm hz₁))
    have hez : e ≠ z := fun x => by subst x; rw [hz₄] at hoe; cases hoe; simp at hce
    refine wpAny_setField_rec hz₄ (by simp) fun g₅ _ hs₅ => ke g₅ e (fun c o c1 c2 c3 c4 x => hs₅.extBut _ _ c1 (hs₄ _ _ c4 (hs₃.extBut _ _ c2 (hs₂.extBut _ _ c3 (hs₁.extBut _ _ c1 x))))) ⟨oe, hs₅.extBut _ _ hez hoe, hce⟩
theorem nextM_item {t1 t2 : Bool} {z TI TO i1 i2 l1 l2 : Addr} {k1 k2 : Nat} {xs ys : Array Value} {x y a b : Value} {Q : Option Value → Shared → Prop} (D : ZipApart z TI TO i1 i2 l1 l2)
    (wz : IsZip s.heap z TI TO .none) (wi : IsPair s.heap TI (.ref i1) (.ref i2)) (wo : IsPair s.heap TO a b)
    (w1 : RowIt t1 s.heap i1 l1 k1) (w2 : RowIt t2 s.heap i2 l2 k2) (v1 : RowAt t1 s.heap l1 xs) (v2 : RowAt t2 s.heap l2 ys) (ux : xs[k1]? = some x) (uy : ys[k2]? = some y)
    (kq : ∀ h', IsZip h' z TI TO (rawInt s.heap.objs.size) → IsPair h' TO x y → RowIt t1 h' i1 l1 (k1 + 1) → RowIt t2 h' i2 l2 (k2 + 1) → IsPair h' s.heap.objs.size x y → h'.objs.size = s.heap.objs.size + 1 →
      (∀ c o, c ≠ z → c ≠ TO → c ≠ i1 → c ≠ i2 → s.heap.get? c = some o → h'.get? c = some o) → Q (some (.ref s.heap.objs.size)) { s with heap := h' }) :
    wpAny (model prog w) A (pyNext (.ref z)) Q E s := by
  have pT : s.TypeIs (.ref z) "zip" := ⟨_, wz, rfl⟩; unfold pyNext
  exact wpAny_bind (wpAny_attempt (wpAny_callSpecial?_slot (name := Str.ofString "__next__") pT F.slot_zip_next
    (wpAny_call_entry F.slot_zip_next pT F.entry_zip_next
      (zipM_item D wz wi wo w1 w2 v1 v2 ux uy fun h' a1 a2 a3 a4 a5 a6 a7 => wpAny_pure (kq h' a1 a2 a3 a4 a5 a6 a7)) (F.args_zip_next_1 _))))
theorem nextM_end {t1 t2 : Bool} {z TI TO i1 i2 l1 l2 : Addr} {k1 k2 : Nat} {xs ys : Array Value} {a b : Value} {Q : Option Value → Shared → Prop} (na : A.handled = none) (D : ZipApart z TI TO i1 i2 l1 l2)
    (wz : IsZip s.heap z TI TO .none) (wi : IsPair s.heap TI (.ref i1) (.ref i2)) (wo : IsPair s.heap TO a b)
    (w1 : RowIt t1 s.heap i1 l1 k1) (w2 : RowIt t2 s.heap i2 l2 k2) (v1 : RowAt t1 s.heap l1 xs) (v2 : RowAt t2 s.heap l2 ys) (uend : xs[k1]? = none ∨ ys[k2]? = none)
    (kq : ∀ h', (∀ c o, c ≠ z → c ≠ TO → c ≠ i1 → c ≠ i2 → s.heap.get? c = some o → h'.get? c = some o) → Q none { s with heap := h' }) : wpAny (model prog w) A (pyNext (.ref z)) Q E s := by
  have pT : s.TypeIs (.ref z) "zip" := ⟨_, wz, rfl⟩; unfold pyNext
  refine wpAny_bind (wpAny_attempt (wpAny_callSpecial?_slot (name := Str.ofString "__next__") pT F.slot_zip_next
    (wpAny_call_entry F.slot_zip_next pT F.entry_zip_next (zipM_end na D wz wi wo w1 w2 v1 v2 uend fun h' e hk he => ?_) (F.args_zip_next_1 _))))
  obtain ⟨o, ho, hc⟩ := he; refine wpAny_bind (wpAny_isInstance (T := "StopIteration") (b := true) ⟨o, ho, hc⟩ isSubtype_stop ?_); exact wpAny_pure (kq _ hk)
end
/-! ### zip(..) made -/
abbrev rowO (t : Bool) (l : Addr) : Obj := { cls := .type (bif t then "tuple_iterator" else "list_iterator"), data := .fields #[.ref l, .int 0 0] }
abbrev zm1 (t1 : Bool) (h : Heap) (l1 : Addr) : Heap := h.push (rowO t1 l1)
abbrev zm2 (t1 t2 : Bool) (h : Heap) (l1 l2 : Addr) : Heap := (zm1 t1 h l1).push (rowO t2 l2)
abbrev zm3 (t1 t2 : Bool) (h : Heap) (l1 l2 : Addr) : Heap := (zm2 t1 t2 h l1 l2).push { cls := .type "tuple", data := .seq #[.ref h.objs.size, .ref (zm1 t1 h l1).objs.size] }
abbrev zm4 (t1 t2 : Bool) (h : Heap) (l1 l2 : Addr) : Heap := (zm3 t1 t2 h l1 l2).push { cls := .type "tuple", data := .seq #[.none, .none] }
abbrev zm5 (t1 t2 : Bool) (h : Heap) (l1 l2 : Addr) : Heap := (zm4 t1 t2 h l1 l2).push { cls := .type "zip", data := .fields #[.none, .bool false, .bool false, .ref (zm2 t1 t2 h l1 l2).objs.size, .ref (zm3 t1 t2 h l1 l2).objs.size] }
theorem RowIt.mk {t : Bool} {h : Heap} {it l : Addr} (e : h.get? it = some (rowO t l)) : RowIt t h it l 0 := by
  cases t
  · exact ⟨_, e, rfl, rfl⟩
  · exact ⟨_, e, rfl, rfl⟩
theorem meets_zm (t1 t2 : Bool) (l1 l2 : Addr) (xs ys : Array Value) : Meets (Builtin.«zip.__new__» ⟨[.type "zip", .ref l1, .ref l2], []⟩) (fun _ R s => RowAt t1 s.heap l1 xs ∧ RowAt t2 s.heap l2 ys ∧
    R (.ok (.ret (.ref (zm4 t1 t2 s.heap l1 l2).objs.size))) { s with heap := zm5 t1 t2 s.heap l1 l2 }) := .of_wp fun prog w A R s hyp => by
  obtain ⟨hp, gg, dd, tk, os⟩ := s
  obtain ⟨v1, v2, hyp⟩ := hyp
  have hsub := sub_zip
  cases t1 <;> cases t2
  · have r1 : Heap.IsList (Shared.heap ⟨hp, gg, dd, tk, os⟩) l1 xs := v1
    have r2 : Heap.IsList (Shared.heap ⟨hp.push { cls := .type "list_iterator", data := .fields #[.ref l1, .int 0 0] }, gg, dd, tk, os⟩) l2 ys := Heap.IsList.push v2 _
    wp_walk using wpAny_pyIter_list r1, wpAny_pyIter_list r2
    exact ⟨_, rfl, hyp⟩
  · have r1 : Heap.IsList (Shared.heap ⟨hp, gg, dd, tk, os⟩) l1 xs := v1
    have r2 : Heap.IsTuple (Shared.heap ⟨hp.push { cls := .type "list_iterator", data := .fields #[.ref l1, .int 0 0] }, gg, dd, tk, os⟩) l2 ys := Heap.IsTuple.push v2 _
    wp_walk using wpAny_pyIter_list r1, wpAny_pyIter_tuple r2
    exact ⟨_, rfl, hyp⟩
  · have r1 : Heap.IsTuple (Shared.heap ⟨hp, gg, dd, tk, os⟩) l1 xs := v1
    have r2 : Heap.IsList (Shared.heap ⟨hp.push { cls := .type "tuple_iterator", data := .fields #[.ref l1, .int 0 0] }, gg, dd, tk, os⟩) l2 ys := Heap.IsList.push v2 _
    wp_walk using wpAny_pyIter_tuple r1, wpAny_pyIter_list r2
    exact ⟨_, rfl, hyp⟩
  · have r1 : Heap.IsTuple (Shared.heap ⟨hp, gg, dd, tk, os⟩) l1 xs := v1
    have r2 : Heap.IsTuple (Shared.heap ⟨hp.push { cls := .type "tuple_iterator", data := .fields #[.ref l1, .int 0 0] }, gg, dd, tk, os⟩) l2 ys := Heap.IsTuple.push v2 _
    wp_walk using wpAny_pyIter_tuple r1, wpAny_pyIter_tuple r2
    exact ⟨_, rfl, hyp⟩
section
variable {prog : Program} {w : World} {A : Around} {E : Value → Shared → Prop} {s : Shared}
theorem call_zm {t1 t2 : Bool} {l1 l2 : Addr} {xs ys : Array Value} {Q : Value → Shared → Prop} (v1 : RowAt t1 s.heap l1 xs) (v2 : RowAt t2 s.heap l2 ys)
    (k : ∀ h', IsZip h' (s.heap.objs.size + 4) (s.heap.objs.size + 2) (s.heap.objs.size + 3) .none → IsPair h' (s.heap.objs.size + 2) (.ref s.heap.objs.size) (.ref (s.heap.objs.size + 1)) → IsPair h' (s.heap.objs.size + 3) .none .none →
      RowIt t1 h' s.heap.objs.size l1 0 → RowIt t2 h' (s.heap.objs.size + 1) l2 0 → h'.objs.size = s.heap.objs.size + 5 → (∀ c o, s.heap.get? c = some o → h'.get? c = some o) → Q (.ref (s.heap.objs.size + 4)) { s with heap := h' }) :
    wpAny (model prog w) A (call (.type "zip") [.ref l1, .ref l2]) Q E s := by
  refine callType_new F.called_zip (by decide) (F.typeCall_zip_2 _ _) (F.newCall_zip_2 _ _) (fun obj => F.args_object_init_3 obj _ _) F.entry_zip_new (meets_zm t1 t2 l1 l2 xs ys) ⟨v1, v2, ?_⟩
  have n1 : (zm1 t1 s.heap l1).objs.size = s.heap.objs.size + 1 := Heap.size_push ..
  have n2 : (zm2 t1 t2 s.heap l1 l2).objs.size = s.heap.objs.size + 2 := by rw [Heap.size_push, n1]
  have n3 : (zm3 t1 t2 s.heap l1 l2).objs.size = s.heap.objs.size + 3 := by rw [Heap.size_push, n2]
  have n4 : (zm4 t1 t2 s.heap l1 l2).objs.size = s.heap.objs.size + 4 := by rw [Heap.size_push, n3]
  have n5 : (zm5 t1 t2 s.heap l1 l2).objs.size = s.heap.objs.size + 5 := by rw [Heap.size_push, n4]
  have p5 : (zm5 t1 t2 s.heap l1 l2).get? (zm4 t1 t2 s.heap l1 l2).objs.size = some _ := Heap.get?_push_size _ rfl
  have p4 : (zm5 t1 t2 s.heap l1 l2).get? (zm3 t1 t2 s.heap l1 l2).objs.size = some _ := Heap.get?_push_of_some _ (Heap.get?_push_size _ rfl)
  have p3 : (zm5 t1 t2 s.heap l1 l2).get? (zm2 t1 t2 s.heap l1 l2).objs.size = some _ := Heap.get?_push_of_some _ (Heap.get?_push_of_some _ (Heap.get?_push_size _ rfl))
  have p2 : (zm5 t1 t2 s.heap l1 l2).get? (zm1 t1 s.heap l1).objs.size = some (rowO t2 l2) := Heap.get?_push_of_some _ (Heap.get?_push_of_some _ (Heap.get?_push_of_some _ (Heap.get?_push_size _ rfl)))
  have p1 : (zm5 t1 t2 s.heap l1 l2).get? s.heap.objs.size = some (rowO t1 l1) := Heap.get?_push_of_some _ (Heap.get?_push_of_some _ (Heap.get?_push_of_some _ (Heap.get?_push_of_some _ (Heap.get?_push_size _ rfl))))
  show _ ∧ _
  rw [n2, n3, n4] at p5; rw [n1, n2] at p3; rw [n3] at p4; rw [n1] at p2; rw [n4]
  exact ⟨⟨_, p5, rfl⟩, k _ p5 p3 p4 (.mk p1) (.mk p2) n5 fun c o x => Heap.get?_push_of_some _ (Heap.get?_push_of_some _ (Heap.get?_push_of_some _ (Heap.get?_push_of_some _ (Heap.get?_push_of_some _ x))))⟩
end
/-! ### the loop over it -/
def SqM (t : Bool) (K : PySem.W.Frag) (H : Hp) (a : Addr) (xs : List V) : Prop := match t with
  | true => SqT K H a xs
  | false => SqL K H a xs
theorem inv_row {X : Cx} {pins : List (Addr × Obj)} {σ : L2.St} {H : Hp} {s : Shared} {t : Bool} {a : Addr} {xs : List V} (I : Inv X pins σ H s) (q : SqM t X.K H a xs) : ∃ its : List Value, Vals xs its ∧ RowAt t s.heap a its.toArray := by
  cases t
  · obtain ⟨its, r, p, _⟩ := I.list q; exact ⟨its, r, p.isList⟩
  · obtain ⟨its, r, p, _⟩ := I.tuple q; exact ⟨its, r, p⟩
theorem row_inj {X : Cx} {pins : List (Addr × Obj)} {σ : L2.St} {H : Hp} {s : Shared} {t : Bool} {a : Addr} {xs ys : List V} (I : Inv X pins σ H s) (q : SqM t X.K H a xs) (q' : SqM t X.K H a ys) : xs = ys := by
  cases t
  · exact I.list_inj q q'
  · exact I.tuple_inj q q'
theorem RowAt.lt {t : Bool} {h : Heap} {a : Addr} {xs : Array Value} (v : RowAt t h a xs) : a < h.objs.size := by
  cases t
  · obtain ⟨o, e, _⟩ := v; exact Heap.lt_size e
  · obtain ⟨o, e, _⟩ := v; exact Heap.lt_size e
/-- pairs of the things of two rows -/
def ItzM (K : PySem.W.Frag) (t1 t2 : Bool) (a b : Addr) : It :=
  ⟨fun i H => ∃ (xs ys : List V) (x y : V), SqM t1 K H a xs ∧ SqM t2 K H b ys ∧ xs[i]? = some x ∧ ys[i]? = some y,
    fun i H v H' => ∃ T x y, v = .ref T ∧ H T = none ∧ H' = upd H T (.tup [x, y]) ∧ (∀ xs, SqM t1 K H a xs → xs[i]? = some x) ∧ ∀ ys, SqM t2 K H b ys → ys[i]? = some y,
    fun i H => ∃ xs ys : List V, SqM t1 K H a xs ∧ SqM t2 K H b ys ∧ (xs.length ≤ i ∨ ys.length ≤ i)⟩
theorem five {c z TI TO i1 i2 : Addr} (h : c ∈ [z, TI, TO, i1, i2]) : c = z ∨ c = TI ∨ c = TO ∨ c = i1 ∨ c = i2 := by simpa using h
theorem turn_zm {P : Program} {w : World} {K : PySem.W.Frag} {elts : List Expr} {kk : Nat} {tpos : Pos} {t1 t2 : Bool} {a b z TI TO i1 i2 : Addr} (D : ZipApart z TI TO i1 i2 a b) :
    Turn P w K (.Tuple elts kk tpos) (ItzM K t1 t2 a b) [z, TI, TO, i1, i2] z (fun i h => IsZip h z TI TO .none ∧ IsPair h TI (.ref i1) (.ref i2) ∧ (∃ x y, IsPair h TO x y) ∧ RowIt t1 h i1 a i ∧ RowIt t2 h i2 b i) where
  mem := by simp
  obj := fun i h st c hc => by
    obtain ⟨wz, wi, ⟨x, y, wo⟩, w1, w2⟩ := st
    obtain ⟨o1, e1, f1, d1⟩ := w1.obj
    obtain ⟨o2, e2, f2, d2⟩ := w2.obj
    rcases five hc with rfl | rfl | rfl | rfl | rfl
    · exact ⟨_, wz, fun v q => nomatch q⟩
    · exact ⟨_, wi, fun v q => nomatch q⟩
    · exact ⟨_, wo, fun v q => nomatch q⟩
    · exact ⟨o1, e1, fun v q => by rw [d1] at q; cases q⟩
    · exact ⟨o2, e2, fun v q => by rw [d2] at q; cases q⟩
  keep := fun i h h' st k => by
    obtain ⟨wz, wi, ⟨x, y, wo⟩, w1, w2⟩ := st
    exact ⟨k z (by simp) _ wz, k TI (by simp) _ wi, ⟨x, y, k TO (by simp) _ wo⟩, w1.at fun o q => k i1 (by simp) o q, w2.at fun o q => k i2 (by simp) o q⟩
  item := by
    intro X hP hw hK hc i pins s σ H E I hf st hg; subst hP hw hK
    obtain ⟨wz, wi, ⟨x0, y0, wo⟩, w1, w2⟩ := st
    obtain ⟨xs, ys, x, y, qa, qb, ex, ey⟩ := hg
    obtain ⟨its, rv, p⟩ := inv_row I qa
    obtain ⟨its2, rv2, p2⟩ := inv_row I qb
    obtain ⟨u, eu, ru⟩ := rv.get ex
    obtain ⟨u2, eu2, ru2⟩ := rv2.get ey
    have ltz : z < s.heap.objs.size := Heap.lt_size wz
    refine nextM_item D wz wi wo w1 w2 p p2 (x := u) (y := u2) (by simpa using eu) (by simpa using eu2) fun h' z' TO' w1' w2' pT sz hk => ?_
    refine ⟨_, rfl, wpAny_letOwnedTupleGo_zip (s := { s with heap := h' }) z' fun h'' z'' sb => ?_⟩
    have new2 : h''.get? s.heap.objs.size = some { cls := .type "tuple", data := .seq #[u, u2] } := (sb.2 _ (Nat.ne_of_gt ltz)).trans pT
    have fresh : ObjOk X.prog X.w (upd H s.heap.objs.size (.tup [x, y])) h'' s.heap.objs.size (.tup [x, y]) := ⟨by show 2 ≤ sizeLine; decide, [u, u2], .cons ru (.cons ru2 .nil), ⟨_, new2, rfl, _, rfl⟩⟩
    have I1 : Inv X pins σ (upd H s.heap.objs.size (.tup [x, y])) { s with heap := h'' } :=
      I.turnedNew (t' := s.toks) (ch := [z, TI, TO, i1, i2]) (fun c o hb q => (sb.2 c (fun q' => hb (by simp [q']))).trans (hk c o (fun q' => hb (by simp [q'])) (fun q' => hb (by simp [q'])) (fun q' => hb (by simp [q'])) (fun q' => hb (by simp [q'])) q)) hf (Nat.le_refl _) fresh
    refine ⟨.ref s.heap.objs.size, _, I1, rfl, ⟨_, x, y, rfl, I.hok.fresh (Nat.le_refl _), rfl, fun l hl => by rw [row_inj I hl qa]; exact ex, fun l hl => by rw [row_inj I hl qb]; exact ey⟩, ⟨z'', ?_, ⟨u, u2, ?_⟩, ?_, ?_⟩, fun c hcm => ?_⟩
    · exact (sb.2 _ D.TIz).trans (hk _ _ D.TIz D.TITO D.TIi1 D.TIi2 wi)
    · exact (sb.2 _ D.TOz).trans TO'
    · exact w1'.at fun o q => (sb.2 _ D.i1z).trans q
    · exact w2'.at fun o q => (sb.2 _ D.i2z).trans q
    · have ltc : c < s.heap.objs.size := by
        rcases five hcm with q | q | q | q | q
        · rw [q]; exact ltz
        · rw [q]; exact Heap.lt_size wi
        · rw [q]; exact Heap.lt_size wo
        · rw [q]; obtain ⟨_, e1, _⟩ := w1.obj; exact Heap.lt_size e1
        · rw [q]; obtain ⟨_, e2, _⟩ := w2.obj; exact Heap.lt_size e2
      rw [upd_ne (Nat.ne_of_lt ltc)]; exact (hf c hcm).1
  done := by
    intro X hP hw hK hc i pins s σ H E I hf st hg; subst hP hw hK
    obtain ⟨wz, wi, ⟨x0, y0, wo⟩, w1, w2⟩ := st
    obtain ⟨xs, ys, qa, qb, uend⟩ := hg
    obtain ⟨its, rv, p⟩ := inv_row I qa
    obtain ⟨its2, rv2, p2⟩ := inv_row I qb
    have n1 := rv.length
    have n2 := rv2.length
    have out : its.toArray[i]? = none ∨ its2.toArray[i]? = none := uend.elim (fun q => .inl (by simp; omega)) (fun q => .inr (by simp; omega))
    exact nextM_end (I.ok.hd hc) D wz wi wo w1 w2 p p2 out fun h' hk => ⟨rfl, I.turnedL (t' := s.toks) (ch := [z, TI, TO, i1, i2]) (fun c o hb q => hk c o (fun q' => hb (by simp [q'])) (fun q' => hb (by simp [q'])) (fun q' => hb (by simp [q'])) (fun q' => hb (by simp [q'])) q) hf⟩
  self := fun A i s Q E st h => wpAny_pyIter_zip st.1 h
def iZipM (K : PySem.W.Frag) (ta : TA) : TI := fun σ H R => ta σ H fun vs H1 => ∃ t1 t2 a b xs ys, vs = [.ref a, .ref b] ∧ SqM t1 K H1 a xs ∧ SqM t2 K H1 b ys ∧ R (ItzM K t1 t2 a b) H1
theorem pi_zipM {X : Cx} {e e2 : Expr} {ta : TA} {p pos tpos : Pos} {elts : List Expr} {kk : Nat} (hg : Gl X "zip") (hm : X.mg "zip" = none) (ha : PA X [e, e2] ta)
    (hs : starEach [e, e2] X.env = (false, eval e X.env) :: starEach [e2] X.env := by rfl) (hpl : (backTo pos (starEach [e2] X.env)).any (·.1) = false := by rfl) : PI X (.Tuple elts kk tpos) (.Call (.Name "zip" p) [e, e2] [] pos) (iZipM X.K ta) := by
  refine ⟨fun pins s σ H R I h => ?_⟩
  refine Call_ (ld_blt I hg hm PyProof.Rows.boot_zip (PyProof.Rows.callWith_type1 (thn (ha.run pos pins s σ H _ I h) fun us s1 ⟨vs, H1, I1, r1, q1⟩ => ?_) hs hpl))
  obtain ⟨t1, t2, a, b, xs, ys, rfl, qa, qb, q⟩ := q1
  cases r1 with
  | cons r rr =>
    cases rr with
    | cons r' rr =>
      cases rr; cases r; cases r'
      have young : ∀ c, c ∈ [s1.heap.objs.size + 4, s1.heap.objs.size + 2, s1.heap.objs.size + 3, s1.heap.objs.size, s1.heap.objs.size + 1] → FpOk X pins H1 c := fun c hcm => by
        have hle : s1.heap.objs.size ≤ c := by rcases five hcm with z | z | z | z | z <;> rw [z] <;> omega
        exact I1.fpOk hle (I1.hok.fresh hle)
      obtain ⟨its, rv, p1⟩ := inv_row I1 qa
      obtain ⟨its2, rv2, p2⟩ := inv_row I1 qb
      refine call_zm p1 p2 fun h' wz wi wo w1 w2 sz hk => wpAny_pyIter_zip wz ?_
      have I2 : Inv X pins σ H1 { s1 with heap := h' } := I1.kept (t' := s1.toks) hk
      exact ⟨s1.heap.objs.size + 4, [s1.heap.objs.size + 4, s1.heap.objs.size + 2, s1.heap.objs.size + 3, s1.heap.objs.size, s1.heap.objs.size + 1], _, _, H1, rfl, I2, turn_zm (PySem.W.ktu_apart s1.heap.objs.size a b p1.lt p2.lt), ⟨wz, wi, ⟨_, _, wo⟩, w1, w2⟩, young, q⟩
end DL
/-! DL9: what is walked; for, while, comprehensions -/
namespace DL
open PySem PySem.Spec PyProof.Rows L2

/-! ### targets, with the slots that they may change -/
abbrev OnlyAt (vs : List Nat) (σ σ' : L2.St) : Prop := σ'.length = σ.length ∧ ∀ j, j ∉ vs → σ'[j]? = σ[j]?
def liftGv (K : PySem.W.Frag) (RK : Res → Prop) (vs : List Nat) (b : DG) : TG := fun v σ H Qh => ∃ g S ρ x Q, ER K RK g S H σ ρ ∧ Rep K S v x ∧ b x ρ Q ∧ ∀ σ' ρ', ER K RK g S H σ' ρ' → OnlyAt vs σ σ' → Q ρ' → Qh σ' H
def liftGsv (K : PySem.W.Frag) (RK : Res → Prop) (vs : List Nat) (b : DGs) : TGs := fun v σ H Qh => ∃ g S ρ x Q, ER K RK g S H σ ρ ∧ Reps K S v x ∧ b x ρ Q ∧ ∀ σ' ρ', ER K RK g S H σ' ρ' → OnlyAt vs σ σ' → Q ρ' → Qh σ' H
variable (X : Cx) (RK : Res → Prop) (vs : List Nat) in
abbrev DGv (e : Expr) (b : DG) : Prop := PG X e (liftGv X.K RK vs b)
variable (X : Cx) (RK : Res → Prop) (vs : List Nat) in
abbrev DGsv (e : List Expr) (b : DGs) : Prop := PGs X e (liftGsv X.K RK vs b)
section
variable {X : Cx} {RK : Res → Prop} {vs : List Nat} {pos : Pos} {e : Expr} {es : List Expr} {b : DG} {r : DGs}
theorem OnlyAt.refl (σ : L2.St) : OnlyAt vs σ σ := ⟨rfl, fun _ _ => rfl⟩
theorem OnlyAt.trans {σ σ1 σ2 : L2.St} (a : OnlyAt vs σ σ1) (c : OnlyAt vs σ1 σ2) : OnlyAt vs σ σ2 := ⟨c.1.trans a.1, fun j h => (c.2 j h).trans (a.2 j h)⟩
theorem tv_name {x : Str} (i : Nat) (hN : X.N.Nodup) (hm : i ∈ vs := by decide) (hi : X.N[i]? = some x := by rfl) (hx : Loc X.env.scope x := by first | exact Or.inl rfl | exact Or.inr rfl)
    (hf : X.fn x = true ∨ X.env.scope.names.lookup x = some .local := by first | exact .inl rfl | exact .inr rfl) : DGv X RK vs (.Name x pos) (bName i) := pg_weak (pg_name hN hi hx hf) (by
  rintro v σ H Qh ⟨g, S, ρ, x, Q, R, r, h, k⟩
  exact k _ _ (R.setD' r) ⟨by simp, fun j hj => List.getElem?_set_ne (show i ≠ j from fun z => hj (z ▸ hm))⟩ h)
theorem tvs_nil : DGsv X RK vs [] bNil := pgs_weak pgs_nil (by
  rintro v σ H Qh ⟨g, S, ρ, x, Q, R, r, ⟨h1, h2⟩, k⟩
  subst h1
  cases r
  exact ⟨rfl, k σ ρ R (.refl σ) h2⟩)
theorem tvs_cons (h1 : DGv X RK vs e b) (h2 : DGsv X RK vs es r) (hs : (assignEach (e :: es) X.env).map (·.2) = assign e X.env :: (assignEach es X.env).map (·.2) := by rfl) : DGsv X RK vs (e :: es) (bCons b r) := pgs_weak (pgs_cons h1 h2 hs) (by
  rintro v σ H Qh ⟨g, S, ρ, x, Q, R, rr, h, k⟩
  cases rr with
  | nil => exact h.elim
  | cons r1 r2 =>
    exact ⟨_, _, rfl, g, S, ρ, _, _, R, r1, h, fun σ' ρ' R' o q => ⟨g, S, ρ', _, Q, R', r2, q, fun σ2 ρ2 R2 o2 q2 => k σ2 ρ2 R2 (o.trans o2) q2⟩⟩)
theorem tv_tup {n : Nat} {j : Nat} (hc : X.calm = true) (h : DGsv X RK vs es r) (hn : (assignEach es X.env).length = n := by rfl) (hst : (assignEach es X.env).findIdx? (·.1) = none := by rfl) : DGv X RK vs (.Tuple es j pos) (bTup n r) := pg_weak (pg_tup hc h hn hst) (by
  rintro v σ H Qh ⟨g, S, ρ, x, Q, R, rr, h, k⟩
  cases x with
  | tup xs =>
    cases rr with
    | tup h1 h2 => exact ⟨_, _, rfl, (TupAt.up R.sub h1).sq, by rw [h2.length]; exact h.1, g, S, ρ, xs, Q, R, h2, h.2, k⟩
  | _ => exact h.elim)
end

/-! ### what is walked -/
abbrev DI := EK → Rho → (List D → Rho → Prop) → Prop
def GoodIt (K : PySem.W.Frag) (S : Hp) (J : It) (its : List D) : Prop := ∀ (i : Nat) S' H', Same S S' → Same S' H' → (its.length ≤ i → J.stop i H') ∧ (i < its.length → J.go i H') ∧
  ∀ x H'', i < its.length → J.yld i H' x H'' → ∃ d, its[i]? = some d ∧ ((H'' = H' ∧ Rep K S' x d) ∨ ∃ T xs ds, x = .ref T ∧ H' T = none ∧ H'' = upd H' T (.tup xs) ∧ d = .tup ds ∧ Reps K S' xs ds)
def liftI (K : PySem.W.Frag) (RK : Res → Prop) (W : WX) (d : DI) : TI := fun σ H Rh => ∃ g S ρ Q E, ER K RK g S H σ ρ ∧ d E ρ Q ∧ (∀ J its H' S' ρ', ER K RK g S' H' σ ρ' → Same S S' → GoodIt K S' J its → Q its ρ' → Rh J H') ∧ ExC K RK W g S E
variable (X : Cx) (RK : Res → Prop) (W : WX) in
abbrev DIt (tg iter : Expr) (d : DI) : Prop := PI X tg iter (liftI X.K RK W d)
theorem GoodIt.up {K : PySem.W.Frag} {S S1 : Hp} {J : It} {its : List D} (h : GoodIt K S J its) (e : Same S S1) : GoodIt K S1 J its := fun i S' H' a c => h i S' H' (e.trans a) c
theorem good_list {K : PySem.W.Frag} {S : Hp} {a : Addr} {xs : List V} {ds : List D} (h : S a = some (.lst xs)) (r : Reps K S xs ds) : GoodIt K S (Itl K a) ds := by
  intro i S' H' e1 e2
  have hq : SqL K H' a xs := SqL.of (e2 _ _ (e1 _ _ h))
  refine ⟨fun z => ⟨xs, hq, by rw [r.length]; exact z⟩, fun z => ⟨xs, xs[i]'(by rw [r.length]; exact z), hq, List.getElem?_eq_getElem _⟩, fun x H'' z y => ?_⟩
  obtain ⟨e, y⟩ := y
  obtain ⟨d, h1, h2⟩ := r.get (y xs hq)
  exact ⟨d, h1, .inl ⟨e, h2.up e1⟩⟩
theorem good_tup {K : PySem.W.Frag} {S : Hp} {a : Addr} {xs : List V} {ds : List D} (h : TupAt K S a xs) (r : Reps K S xs ds) : GoodIt K S (Itt K a) ds := by
  intro i S' H' e1 e2
  have hq : SqT K H' a xs := (TupAt.up e2 (TupAt.up e1 h)).sq
  refine ⟨fun z => ⟨xs, hq, by rw [r.length]; exact z⟩, fun z => ⟨xs, xs[i]'(by rw [r.length]; exact z), hq, List.getElem?_eq_getElem _⟩, fun x H'' z y => ?_⟩
  obtain ⟨e, y⟩ := y
  obtain ⟨d, h1, h2⟩ := r.get (y xs hq)
  exact ⟨d, h1, .inl ⟨e, h2.up e1⟩⟩
theorem rng_len (a b : Int) : (rng a b).length = (b - a).toNat := by unfold rng; rw [List.length_map, List.length_range]
theorem rng_get {a b : Int} {i : Nat} (h : i < (b - a).toNat) : (rng a b)[i]? = some (a + (i : Int)) := by
  unfold rng
  rw [List.getElem?_map, List.getElem?_range h]; rfl
theorem good_rng {K : PySem.W.Frag} {S : Hp} (a b : Int) : GoodIt K S (Itr a (b - a).toNat) ((rng a b).map D.int) := by
  intro i S' H' e1 e2
  rw [List.length_map, rng_len]
  refine ⟨fun z => z, fun z => z, fun x H'' z y => ?_⟩
  obtain ⟨e, rfl⟩ := y
  exact ⟨.int (a + (i : Int)), by rw [List.getElem?_map, rng_get z]; rfl, .inl ⟨e, .int _⟩⟩
/-- the signs of a text -/
def signs (x : Str) : List D := x.cps.toList.map fun c => .str ⟨#[c]⟩
theorem good_str {K : PySem.W.Frag} {S : Hp} (x : Str) : GoodIt K S (Its x) (signs x) := by
  intro i S' H' e1 e2
  have hl : (signs x).length = x.cps.size := by unfold signs; rw [List.length_map, Array.length_toList]
  rw [hl]
  refine ⟨fun z => z, fun z => z, fun v H'' z y => ?_⟩
  obtain ⟨e, c, hc, rfl⟩ := y
  refine ⟨.str ⟨#[c]⟩, ?_, .inl ⟨e, .str _⟩⟩
  unfold signs
  rw [List.getElem?_map, Array.getElem?_toList, hc]; rfl
def dSeqI (d : DT) : DI := fun E ρ Q => d E ρ fun x ρ1 => match x with
  | .lst xs => Q xs ρ1
  | .tup xs => Q xs ρ1
  | .str z => Q (signs z) ρ1
  | _ => False
@[simp] def dRngI (d : DRg) : DI := fun E ρ Q => d E ρ fun a b ρ1 => -(2 ^ 62) ≤ a ∧ a < 2 ^ 62 ∧ -(2 ^ 62) ≤ b ∧ b < 2 ^ 62 ∧ Q ((rng a b).map D.int) ρ1
def zipD (xs ys : List D) : List D := (xs.zip ys).map fun p => .tup [p.1, p.2]
def dZipI (r : DA) : DI := fun E ρ Q => r E ρ fun vs ρ1 => match vs with
  | [.lst xs, .lst ys] => Q (zipD xs ys) ρ1
  | [.tup xs, .tup ys] => Q (zipD xs ys) ρ1
  | [.lst xs, .tup ys] => Q (zipD xs ys) ρ1
  | [.tup xs, .lst ys] => Q (zipD xs ys) ρ1
  | _ => False
def enumD (xs : List D) : List D := xs.zipIdx.map fun p => .tup [.int (p.2 : Nat), p.1]
def dEnumI (r : DA) : DI := fun E ρ Q => r E ρ fun vs ρ1 => match vs with
  | [.lst xs] => Q (enumD xs) ρ1
  | _ => False
theorem zipD_len (xs ys : List D) : (zipD xs ys).length = min xs.length ys.length := by unfold zipD; rw [List.length_map, List.length_zip]
theorem enumD_len (xs : List D) : (enumD xs).length = xs.length := by unfold enumD; rw [List.length_map, List.length_zipIdx]
theorem zipD_get {xs ys : List D} {i : Nat} {x y : D} (h1 : xs[i]? = some x) (h2 : ys[i]? = some y) : (zipD xs ys)[i]? = some (.tup [x, y]) := by
  unfold zipD
  rw [List.getElem?_map, (List.getElem?_zip_eq_some (z := (x, y))).mpr ⟨h1, h2⟩]; rfl
theorem enumD_get {xs : List D} {i : Nat} {x : D} (h1 : xs[i]? = some x) : (enumD xs)[i]? = some (.tup [.int (i : Nat), x]) := by
  unfold enumD
  rw [List.getElem?_map, List.getElem?_zipIdx, h1]; simp
def RowIn (t : Bool) (K : PySem.W.Frag) (S : Hp) (a : Addr) (xs : List V) : Prop := match t with
  | true => TupAt K S a xs
  | false => S a = some (.lst xs)
theorem RowIn.sq {t : Bool} {K : PySem.W.Frag} {S H : Hp} {a : Addr} {xs : List V} (h : RowIn t K S a xs) (e : Same S H) : SqM t K H a xs := by
  cases t
  · exact SqL.of (e _ _ h)
  · exact (TupAt.up e h).sq
theorem RowIn.up {t : Bool} {K : PySem.W.Frag} {S H : Hp} {a : Addr} {xs : List V} (h : RowIn t K S a xs) (e : Same S H) : RowIn t K H a xs := by
  cases t
  · exact e _ _ h
  · exact TupAt.up e h
theorem good_zipM {K : PySem.W.Frag} {S : Hp} {t1 t2 : Bool} {a b : Addr} {xs ys : List V} {ds es : List D} (h : RowIn t1 K S a xs) (h' : RowIn t2 K S b ys) (r : Reps K S xs ds) (r' : Reps K S ys es) : GoodIt K S (ItzM K t1 t2 a b) (zipD ds es) := by
  intro i S' H' e1 e2
  have hq := (h.up e1).sq e2
  have hq' := (h'.up e1).sq e2
  have l1 := r.length
  have l2 := r'.length
  rw [zipD_len]
  refine ⟨fun z => ⟨xs, ys, hq, hq', by omega⟩, fun z => ⟨xs, ys, _, _, hq, hq', List.getElem?_eq_getElem (show i < xs.length by omega), List.getElem?_eq_getElem (show i < ys.length by omega)⟩, fun x H'' z y => ?_⟩
  obtain ⟨T, u, v, rfl, hT, rfl, f1, f2⟩ := y
  obtain ⟨d, a1, a2⟩ := r.get (f1 xs hq)
  obtain ⟨d', b1, b2⟩ := r'.get (f2 ys hq')
  exact ⟨_, zipD_get a1 b1, .inr ⟨T, [u, v], [d, d'], rfl, hT, rfl, rfl, .cons (a2.up e1) (.cons (b2.up e1) .nil)⟩⟩
theorem good_enumL {K : PySem.W.Frag} {S : Hp} {a : Addr} {xs : List V} {ds : List D} (h : S a = some (.lst xs)) (r : Reps K S xs ds) : GoodIt K S (Ite K a) (enumD ds) := by
  intro i S' H' e1 e2
  have hq : SqL K H' a xs := SqL.of (e2 _ _ (e1 _ _ h))
  have l1 := r.length
  rw [enumD_len]
  refine ⟨fun z => ⟨xs, hq, by omega⟩, fun z => ⟨xs, _, hq, List.getElem?_eq_getElem (show i < xs.length by omega)⟩, fun x H'' z y => ?_⟩
  obtain ⟨T, u, rfl, hT, rfl, f1⟩ := y
  obtain ⟨d, a1, a2⟩ := r.get (f1 xs hq)
  exact ⟨_, enumD_get a1, .inr ⟨T, [.int (i : Nat), u], [.int (i : Nat), d], rfl, hT, rfl, rfl, .cons (.int _) (.cons (a2.up e1) .nil)⟩⟩
section
variable {X : Cx} {RK : Res → Prop} {W : WX} {pos p1 tpos : Pos} {tg e e2 : Expr} {es elts : List Expr} {d d' : DT} {r : DA} {kk : Nat}
theorem pi_weak {t t' : TI} (h : PI X tg e t) (i : ∀ σ H R, t' σ H R → t σ H R) : PI X tg e t' := ⟨fun pins s σ H R I q => h.run pins s σ H R I (i σ H R q)⟩
def iSeq (K : PySem.W.Frag) (te : TE) : TI := fun σ H R => te σ H fun x H1 => (∃ a xs, x = .ref a ∧ SqL K H1 a xs ∧ R (Itl K a) H1) ∨ (∃ a xs, x = .ref a ∧ SqT K H1 a xs ∧ R (Itt K a) H1) ∨ ∃ z, x = .str z ∧ R (Its z) H1
theorem pi_seq {te : TE} (he : PE X e te) : PI X tg e (iSeq X.K te) := by
  constructor
  intro pins s σ H R I h
  apply thn (he.run pins s σ H _ I h)
  rintro v s1 ⟨x, H1, I1, r1, q⟩
  rcases q with ⟨a, xs, rfl, hq, q⟩ | ⟨a, xs, rfl, hq, q⟩ | ⟨z, rfl, q⟩
  · cases r1
    obtain ⟨its, rv, p, hz⟩ := I1.list hq
    exact wpAny_pyIter_list p.isList (pi_one (tk := s1.toks) I1 _ (turn_list a _) ⟨_, Heap.get?_push_size _ rfl, rfl, rfl⟩ q)
  · cases r1
    obtain ⟨its, rv, p, hz⟩ := I1.tuple hq
    exact wpAny_pyIter_tuple p (pi_one (tk := s1.toks) I1 _ (turn_tuple a _) ⟨_, Heap.get?_push_size _ rfl, rfl, rfl⟩ q)
  · obtain ⟨t, rfl⟩ := r1
    cases ha : z.cps.all (· < 128)
    · exact wpAny_pyIter_wide ha (pi_one (tk := s1.toks) I1 _ (turn_str _ z t "str_iterator" (.inr rfl)) ⟨_, Heap.get?_push_size _ rfl, rfl, rfl⟩ q)
    · exact wpAny_pyIter_ascii ha (pi_one (tk := s1.toks) I1 _ (turn_str _ z t "str_ascii_iterator" (.inl rfl)) ⟨_, Heap.get?_push_size _ rfl, rfl, rfl⟩ q)
theorem di_seq (he : DE X RK W e d) : DIt X RK W tg e (dSeqI d) := pi_weak (pi_seq he) (by
  rintro σ H Rh ⟨g, S, ρ, Q, E, R, h, hq, hx⟩
  refine ⟨g, S, ρ, _, E, R, h, fun v H1 S1 ρ1 x R1 e1 r1 q1 => ?_, hx⟩
  cases x with
  | lst xs =>
    cases r1 with
    | lst a1 a2 => exact .inl ⟨_, _, rfl, SqL.of (R1.sub _ _ a1), hq _ _ H1 S1 ρ1 R1 e1 (good_list a1 a2) q1⟩
  | tup xs =>
    cases r1 with
    | tup a1 a2 => exact .inr (.inl ⟨_, _, rfl, (TupAt.up R1.sub a1).sq, hq _ _ H1 S1 ρ1 R1 e1 (good_tup a1 a2) q1⟩)
  | str z => cases r1; exact .inr (.inr ⟨z, rfl, hq _ _ H1 S1 ρ1 R1 e1 (good_str z) q1⟩)
  | _ => exact q1.elim)
theorem di_rng1 (hm : X.mg "range" = none) (ha : DE X RK W e d) (hg : Gl X "range" := by rfl) (hs : starEach [e] X.env = [(false, eval e X.env)] := by rfl) : DIt X RK W tg (.Call (.Name "range" p1) [e] [] pos) (dRngI (dRg1 d)) := pi_weak (pi_range1 hg hm (pa_cons ha pa_nil hs) hs) (by
  rintro σ H Rh ⟨g, S, ρ, Q, E, R, h, hq, hx⟩
  refine ⟨g, S, ρ, _, E, R, h, fun v H1 S1 ρ1 x R1 e1 r1 q1 => ?_, hx⟩
  cases x with
  | int n =>
    cases r1
    obtain ⟨b1, b2, b3, b4, q1⟩ := q1
    have z := hq (Itr 0 n.toNat) ((rng 0 n).map D.int) H1 S1 ρ1 R1 e1 (by have := good_rng (K := X.K) (S := S1) 0 n; rw [Int.sub_zero] at this; exact this) q1
    exact ⟨n, rfl, b3, b4, z⟩
  | _ => exact q1.elim)
theorem di_rng2 (hm : X.mg "range" = none) (ha : DE X RK W e d) (hb : DE X RK W e2 d') (hg : Gl X "range" := by rfl) (hs : starEach [e, e2] X.env = [(false, eval e X.env), (false, eval e2 X.env)] := by rfl) (hs2 : starEach [e2] X.env = [(false, eval e2 X.env)] := by rfl) :
    DIt X RK W tg (.Call (.Name "range" p1) [e, e2] [] pos) (dRngI (dRg2 d d')) := pi_weak (pi_range2 hg hm (pa_cons ha (pa_cons hb pa_nil hs2) (by rw [hs, hs2])) hs hs2) (by
  rintro σ H Rh ⟨g, S, ρ, Q, E, R, h, hq, hx⟩
  refine ⟨g, S, ρ, _, E, R, h, fun v H1 S1 ρ1 x R1 e1 r1 q1 => ⟨g, S1, ρ1, _, E, R1, q1, fun u H2 S2 ρ2 y R2 e2 r2 q2 => ?_, hx.up e1⟩, hx⟩
  cases x with
  | int n =>
    cases y with
    | int m =>
      cases r1; cases r2
      obtain ⟨b1, b2, b3, b4, q3⟩ := q2
      exact ⟨n, m, rfl, ⟨b1, b2, b3, b4⟩, hq _ _ H2 S2 ρ2 R2 (e1.trans e2) (good_rng n m) q3⟩
    | _ => exact q2.elim
  | _ => cases y <;> exact q2.elim)
theorem di_zip (hm : X.mg "zip" = none) (ha : DAs X RK W [e, e2] r) (hg : Gl X "zip" := by rfl) (hs : starEach [e, e2] X.env = (false, eval e X.env) :: starEach [e2] X.env := by rfl) (hpl : (backTo pos (starEach [e2] X.env)).any (·.1) = false := by rfl) :
    DIt X RK W (.Tuple elts kk tpos) (.Call (.Name "zip" p1) [e, e2] [] pos) (dZipI r) := pi_weak (pi_zipM hg hm ha hs hpl) (by
  rintro σ H Rh ⟨g, S, ρ, Q, E, R, h, hq, hx⟩
  refine ⟨g, S, ρ, _, E, R, h, fun vs H1 S1 ρ1 xs R1 e1 r1 q1 => ?_, hx⟩
  have key : ∀ (t1 t2 : Bool) (a b : Addr) (us ws : List V) (ds es : List D), RowIn t1 X.K S1 a us → RowIn t2 X.K S1 b ws → Reps X.K S1 us ds → Reps X.K S1 ws es → Q (zipD ds es) ρ1 → ∃ t1 t2 a' b' xs ys, [V.ref a, V.ref b] = [.ref a', .ref b'] ∧ SqM t1 X.K H1 a' xs ∧ SqM t2 X.K H1 b' ys ∧ Rh (ItzM X.K t1 t2 a' b') H1 :=
    fun t1 t2 a b us ws ds es h1 h2 u1 u2 q => ⟨t1, t2, a, b, us, ws, rfl, h1.sq R1.sub, h2.sq R1.sub, hq _ _ H1 S1 ρ1 R1 e1 (good_zipM h1 h2 u1 u2) q⟩
  split at q1
  · cases r1 with
    | cons a r1 =>
      cases r1 with
      | cons b r1 =>
        cases r1; cases a with
        | lst a1 a2 => cases b with
          | lst b1 b2 => exact key false false _ _ _ _ _ _ a1 b1 a2 b2 q1
  · cases r1 with
    | cons a r1 =>
      cases r1 with
      | cons b r1 =>
        cases r1; cases a with
        | tup a1 a2 => cases b with
          | tup b1 b2 => exact key true true _ _ _ _ _ _ a1 b1 a2 b2 q1
  · cases r1 with
    | cons a r1 =>
      cases r1 with
      | cons b r1 =>
        cases r1; cases a with
        | lst a1 a2 => cases b with
          | tup b1 b2 => exact key false true _ _ _ _ _ _ a1 b1 a2 b2 q1
  · cases r1 with
    | cons a r1 =>
      cases r1 with
      | cons b r1 =>
        cases r1; cases a with
        | tup a1 a2 => cases b with
          | lst b1 b2 => exact key true false _ _ _ _ _ _ a1 b1 a2 b2 q1
  · exact q1.elim)
theorem di_enumL (hm : X.mg "enumerate" = none) (ha : DAs X RK W [e] r) (hg : Gl X "enumerate" := by rfl) (hs : starEach [e] X.env = [(false, eval e X.env)] := by rfl) :
    DIt X RK W (.Tuple elts kk tpos) (.Call (.Name "enumerate" p1) [e] [] pos) (dEnumI r) := pi_weak (pi_enum hg hm ha hs) (by
  rintro σ H Rh ⟨g, S, ρ, Q, E, R, h, hq, hx⟩
  refine ⟨g, S, ρ, _, E, R, h, fun vs H1 S1 ρ1 xs R1 e1 r1 q1 => ?_, hx⟩
  split at q1
  · cases r1 with
    | cons a r1 =>
      cases r1
      cases a with
      | lst a1 a2 => exact ⟨_, _, rfl, SqL.of (R1.sub _ _ a1), hq _ _ H1 S1 ρ1 R1 e1 (good_enumL a1 a2) q1⟩
  · exact q1.elim)
end

/-! ### for, while -/
def forGo (b : DG) (body : DS) (E : EK) (Kd : DEnds) : List D → Rho → Prop
  | [], ρ => Kd.nx ρ
  | x :: r, ρ => b x ρ fun ρ1 => body E { nx := forGo b body E Kd r, ct := forGo b body E Kd r, bk := Kd.nx, rt := Kd.rt } ρ1
@[simp] def dFor (di : DI) (b : DG) (body : DS) : DS := fun E Kd ρ => di E ρ fun its ρ1 => forGo b body E Kd its ρ1
def whGo (c : DB) (body : DS) (E : EK) (Kd : DEnds) : Nat → Rho → Prop
  | 0, _ => False
  | n + 1, ρ => c E ρ fun t ρ1 => match t with
    | true => body E { nx := whGo c body E Kd n, ct := whGo c body E Kd n, bk := Kd.nx, rt := Kd.rt } ρ1
    | false => Kd.nx ρ1
def dWhile (c : DB) (body : DS) : DS := fun E Kd ρ => ∃ n, whGo c body E Kd n ρ
section
variable {X : Cx} {RK : Res → Prop} {W : WX} {pos : Pos} {tg iter c : Expr} {body : List Stmt} {di : DI} {b : DG} {t : DS} {p : DB} {vs : List Nat}
theorem ER.yld {K : PySem.W.Frag} {g : G} {S1 S H H'' : Hp} {σ : L2.St} {ρ : Rho} {J : It} {its : List D} {i : Nat} {x : V} (R : ER K RK g S H σ ρ) (e : Same S1 S) (G : GoodIt K S1 J its) (hi : i < its.length) (y : J.yld i H x H'') :
    ∃ S'' d, its[i]? = some d ∧ ER K RK g S'' H'' σ ρ ∧ Same S S'' ∧ Rep K S'' x d := by
  obtain ⟨d, h1, h2⟩ := (G i S H e R.sub).2.2 x H'' hi y
  rcases h2 with ⟨rfl, r⟩ | ⟨T, xs, ds, rfl, hT, rfl, rfl, r⟩
  · exact ⟨S, d, h1, R, Same.refl S, r⟩
  · obtain ⟨R2, e2⟩ := R.alloc (o := .tup xs) hT
    exact ⟨_, _, h1, R2, e2, .tup (.inl upd_same) (r.up e2)⟩
theorem st_for (hp : PassesOwn (model X.prog X.w) X.A X.env X.xe) (hc : X.calm = true) (hi : DIt X RK W tg iter di) (hg : DGv X RK vs tg b) (hb : DSs X RK W body t)
    (hs : ∀ x, foldedSetIterable iter X.env x = pure x := by intro _; rfl) : DSt X RK W (.For tg iter body [] pos) (dFor di b t) := ps_weak (ps_for hp hc hi hg hb hs) (by
  rintro D σ H ⟨g, S, ρ, Kd, E, R, h, k1, k2, k3, k4, hx⟩
  refine ⟨g, S, ρ, _, E, R, h, fun J its H1 S1 ρ1 R1 e1 G1 q1 => ?_, hx⟩
  refine ⟨fun i m σ' H' => m = its.length - i ∧ i ≤ its.length ∧ ∃ S' ρ', ER X.K RK g S' H' σ' ρ' ∧ Same S1 S' ∧ forGo b t E Kd (its.drop i) ρ', ⟨its.length, rfl, Nat.zero_le _, S1, ρ1, R1, Same.refl S1, q1⟩, ?_⟩
  rintro i m σ' H' ⟨rfl, hil, S', ρ', R', e', q'⟩
  by_cases hlt : i < its.length
  · refine .inr ⟨(G1 i S' H' e' R'.sub).2.1 hlt, fun σ2 H2 => ∃ S2 ρ2, ER X.K RK g S2 H2 σ2 ρ2 ∧ Same S1 S2 ∧ forGo b t E Kd (its.drop (i + 1)) ρ2, ?_, ?_⟩
    · rintro σ2 H2 ⟨S2, ρ2, R2, e2, q2⟩
      exact ⟨its.length - (i + 1), by omega, rfl, hlt, S2, ρ2, R2, e2, q2⟩
    · intro x H2 y
      obtain ⟨S2, d, hd, R2, e2, r2⟩ := R'.yld e' G1 hlt y
      have hdrop : its.drop i = d :: its.drop (i + 1) := by
        rw [List.drop_eq_getElem_cons hlt]
        rw [List.getElem?_eq_getElem hlt] at hd
        cases hd; rfl
      rw [hdrop] at q'
      refine ⟨g, S2, ρ', d, _, R2, r2, q', fun σ3 ρ3 R3 _ q3 => ?_⟩
      have e12 : Same S1 S2 := e'.trans e2
      have e02 : Same S S2 := e1.trans e12
      exact ⟨g, S2, ρ3, _, E, R3, q3, fun σ4 H4 S4 ρ4 R4 e4 q4 => ⟨S4, ρ4, R4, e12.trans e4, q4⟩, fun v σ4 H4 S4 ρ4 x4 R4 e4 r4 q4 => k2 v σ4 H4 S4 ρ4 x4 R4 (e02.trans e4) r4 q4,
        fun σ4 H4 S4 ρ4 R4 e4 q4 => k1 σ4 H4 S4 ρ4 R4 (e02.trans e4) q4, fun σ4 H4 S4 ρ4 R4 e4 q4 => ⟨S4, ρ4, R4, e12.trans e4, q4⟩, hx.up e02⟩
  · have hi' : i = its.length := by omega
    subst hi'
    rw [List.drop_length] at q'
    exact .inl ⟨(G1 _ S' H' e' R'.sub).1 (Nat.le_refl _), k1 σ' H' S' ρ' R' (e1.trans e') q'⟩)
theorem st_while (hp : PassesOwn (model X.prog X.w) X.A X.env X.xe) (hc : DTs X RK W c p) (hb : DSs X RK W body t) : DSt X RK W (.While c body [] pos) (dWhile p t) := ps_weak (ps_while hp hc hb) (by
  rintro D σ H ⟨g, S, ρ, Kd, E, R, ⟨n, h⟩, k1, k2, k3, k4, hx⟩
  refine ⟨fun m σ' H' => ∃ S' ρ', ER X.K RK g S' H' σ' ρ' ∧ Same S S' ∧ whGo p t E Kd m ρ', ⟨n, S, ρ, R, Same.refl S, h⟩, ?_⟩
  rintro m σ' H' ⟨S', ρ', R', e', q'⟩
  cases m with
  | zero => exact q'.elim
  | succ m =>
    refine ⟨g, S', ρ', _, E, R', q', fun b H1 S1 ρ1 R1 e1 q1 => ?_, hx.up e'⟩
    have e01 := e'.trans e1
    cases b with
    | true =>
      refine iteT ?_
      refine ⟨fun σ2 H2 => ∃ S2 ρ2, ER X.K RK g S2 H2 σ2 ρ2 ∧ Same S S2 ∧ whGo p t E Kd m ρ2, fun σ2 H2 z => ⟨m, Nat.lt_succ_self m, z⟩, ?_⟩
      exact ⟨g, S1, ρ1, _, E, R1, q1, fun σ4 H4 S4 ρ4 R4 e4 q4 => ⟨S4, ρ4, R4, e01.trans e4, q4⟩, fun v σ4 H4 S4 ρ4 x4 R4 e4 r4 q4 => k2 v σ4 H4 S4 ρ4 x4 R4 (e01.trans e4) r4 q4,
        fun σ4 H4 S4 ρ4 R4 e4 q4 => k1 σ4 H4 S4 ρ4 R4 (e01.trans e4) q4, fun σ4 H4 S4 ρ4 R4 e4 q4 => ⟨S4, ρ4, R4, e01.trans e4, q4⟩, hx.up e01⟩
    | false =>
      refine iteF ?_
      exact k1 σ' H1 S1 ρ1 R1 e01 q1)
end
end DL
/-! DL10: comprehensions -/
namespace DL
open PySem PySem.Spec PyProof.Rows L2

def G.pin (g : G) (p : Addr) (o : HO) : G := ⟨upd g.He p o, g.S0, g.r⟩
section
variable {K : PySem.W.Frag} {RK : Res → Prop} {g : G} {S S' H H' : Hp} {σ σ' : L2.St} {ρ ρ' : Rho} {p : Addr} {o : HO}
/-- a thing that nothing speaks of, kept as it is for a while -/
theorem ER.pin (R : ER K RK g S H σ ρ) (hH : H p = some o) (hS : S p = none) (he : g.He p = none) (hn : ∀ i, ownAt ρ i ≠ some p) : ER K RK (g.pin p o) S H σ ρ := by
  have hpf : p ∉ g.r.fp := fun q => by
    obtain ⟨o, e⟩ := g.r.there _ _ R.heok p q
    rw [he] at e; cases e
  have hne : ∀ {a u}, S a = some u → a ≠ p := fun {a u} e z => by rw [z, hS] at e; cases e
  refine ⟨R.rk, g.r.st (Same.refl _) (fun a ha => upd_ne (show a ≠ p from fun z => hpf (z ▸ ha))) R.heok, R.sub, fun a u ha e => ?_, fun a u e => ?_, R.s0, R.fpS, R.res, R.len, fun i c e => ?_, R.apart, R.nt⟩
  · by_cases hb : a = p
    · subst hb; rw [show (g.pin a o).He a = some o from upd_same] at e; cases e; exact hH
    · rw [show (g.pin p o).He a = g.He a from upd_ne hb] at e; exact R.fr a u ha e
  · rw [show (g.pin p o).He a = g.He a from upd_ne (hne e)]
    exact R.vis a u e
  · have z := R.cell i c e
    have hq : ∀ {q}, c.at? = some q → q ≠ p := fun {q} h w => hn i (w ▸ own_of e h)
    cases c with
    | un => exact z
    | dat d => exact z
    | res => exact z
    | own q ds =>
      obtain ⟨z1, z2, z3, z4⟩ := z
      exact ⟨z1, z2, (upd_ne (hq rfl)).trans z3, z4⟩
    | ownK q ds =>
      obtain ⟨z1, z2, z3, z4⟩ := z
      exact ⟨z1, z2, (upd_ne (hq rfl)).trans z3, z4⟩
theorem ER.unpin (R : ER K RK (g.pin p o) S' H' σ' ρ') (he : g.He p = none) (hs : g.S0 p = none) (hg : g.r.ok g.S0 g.He) : ER K RK g S' H' σ' ρ' ∧ H' p = some o ∧ S' p = none ∧ ∀ i, ownAt ρ' i ≠ some p := by
  have hpf : p ∉ g.r.fp := fun q => by
    obtain ⟨o, e⟩ := g.r.there _ _ hg p q
    rw [he] at e; cases e
  have h1 : H' p = some o := R.fr p o hpf upd_same
  have h2 : S' p = none := by
    cases e : S' p with
    | none => rfl
    | some u =>
      rcases R.vis p u e with z | z
      · rw [show (g.pin p o).S0 p = g.S0 p from rfl, hs] at z; cases z
      · rw [show (g.pin p o).He p = some o from upd_same] at z; cases z
  have h3 : ∀ i, ownAt ρ' i ≠ some p := fun i z => by
    have q := (R.ownS z).2
    rw [show (g.pin p o).He p = some o from upd_same] at q; cases q
  have hne : ∀ {a u}, S' a = some u → a ≠ p := fun {a u} e z => by rw [z, h2] at e; cases e
  refine ⟨⟨R.rk, hg, R.sub, fun a u ha e => R.fr a u ha ?_, fun a u e => ?_, R.s0, R.fpS, R.res, R.len, fun i c e => ?_, R.apart, R.nt⟩, h1, h2, h3⟩
  · have hb : a ≠ p := fun z => by rw [z, he] at e; cases e
    exact (upd_ne hb).trans e
  · have z := R.vis a u e
    rw [show (g.pin p o).He a = g.He a from upd_ne (hne e)] at z
    exact z
  · have z := R.cell i c e
    have hq : ∀ {q}, c.at? = some q → q ≠ p := fun {q} h w => h3 i (w ▸ own_of e h)
    cases c with
    | un => exact z
    | dat d => exact z
    | res => exact z
    | own q ds =>
      obtain ⟨z1, z2, z3, z4⟩ := z
      exact ⟨z1, z2, (upd_ne (hq rfl)).symm.trans z3, z4⟩
    | ownK q ds =>
      obtain ⟨z1, z2, z3, z4⟩ := z
      exact ⟨z1, z2, (upd_ne (hq rfl)).symm.trans z3, z4⟩
end

/-! ### the block's own names -/
@[simp] def wipeR (ρ : Rho) : List Nat → Rho
  | [] => ρ
  | v :: vs => (wipeR ρ vs).set v .un
/-- behind the block: its own names are again what they were (if that is data) -/
def backC : Option Cell → Cell
  | some (.dat d) => .dat d
  | _ => .un
def backR (ρ ρ' : Rho) : List Nat → Rho
  | [] => ρ'
  | v :: vs => (backR ρ ρ' vs).set v (backC ρ[v]?)
section
variable {K : PySem.W.Frag} {RK : Res → Prop} {g : G} {S S' H H' : Hp} {σ σ' : L2.St} {ρ ρ' : Rho}
theorem ER.wipe1 (R : ER K RK g S H σ ρ) (i : Nat) : ER K RK g S H (σ.set i none) (ρ.set i .un) := by
  have R1 := R.forget i
  refine ⟨R1.rk, R1.heok, R1.sub, R1.fr, R1.vis, R1.s0, R1.fpS, R1.res, by rw [R1.len]; simp, fun j c e => ?_, R1.apart, R1.nt⟩
  by_cases h : j = i
  · subst h
    by_cases hl : j < ρ.length
    · rw [List.getElem?_set_self hl] at e; cases e; trivial
    · rw [List.getElem?_eq_none (by simpa using hl)] at e; cases e
  · rw [List.getElem?_set_ne (Ne.symm h)]
    exact R1.cell j c e
theorem ER.wipe (R : ER K RK g S H σ ρ) : ∀ vs, ER K RK g S H (L2.wipe σ vs) (wipeR ρ vs)
  | [] => R
  | v :: vs => (ER.wipe R vs).wipe1 v
theorem wipe_len (vs : List Nat) : (wipeR ρ vs).length = ρ.length := by
  induction vs with
  | nil => rfl
  | cons v vs ih => unfold wipeR; rw [List.length_set, ih]
theorem wipe_eq {vs : List Nat} (h : OnlyAt vs σ σ') : L2.wipe σ' vs = L2.wipe σ vs := by
  have key : ∀ us : List Nat, (∀ v ∈ us, v ∈ vs) → ∀ j, (j ∈ us ∨ j ∉ vs) → (L2.wipe σ' us)[j]? = (L2.wipe σ us)[j]? := by
    intro us
    induction us with
    | nil => intro _ j hj; exact hj.elim (fun z => by cases z) (h.2 j)
    | cons v us ih =>
      intro hs j hj
      show ((L2.wipe σ' us).set v none)[j]? = ((L2.wipe σ us).set v none)[j]?
      by_cases e : j = v
      · subst e
        by_cases hl : j < σ.length
        · rw [List.getElem?_set_self (by rw [wipe_length, h.1]; exact hl), List.getElem?_set_self (by rw [wipe_length]; exact hl)]
        · rw [List.getElem?_eq_none (by rw [List.length_set, wipe_length, h.1]; omega), List.getElem?_eq_none (by rw [List.length_set, wipe_length]; omega)]
      · rw [List.getElem?_set_ne (Ne.symm e), List.getElem?_set_ne (Ne.symm e)]
        refine ih (fun w hw => hs w (List.mem_cons_of_mem _ hw)) j ?_
        rcases hj with z | z
        · rcases List.mem_cons.mp z with z | z
          · exact absurd z e
          · exact .inl z
        · exact .inr z
  apply List.ext_getElem?
  intro j
  exact key vs (fun _ z => z) j (Decidable.em (j ∈ vs))
theorem wipe_at {vs : List Nat} {j : Nat} (h : j ∉ vs) : (L2.wipe σ vs)[j]? = σ[j]? := L2.wipe_out h
theorem wipeR_at {vs : List Nat} {j : Nat} (h : j ∉ vs) : (wipeR ρ vs)[j]? = ρ[j]? := by
  induction vs with
  | nil => rfl
  | cons v vs ih =>
    unfold wipeR
    rw [List.getElem?_set_ne (fun z => h (by rw [z]; exact List.mem_cons_self)), ih fun z => h (List.mem_cons_of_mem _ z)]
theorem wipeR_in {vs : List Nat} {j : Nat} {c : Cell} (h : j ∈ vs) (e : (wipeR ρ vs)[j]? = some c) : c = .un := by
  induction vs with
  | nil => cases h
  | cons v vs ih =>
    unfold wipeR at e
    by_cases hv : j = v
    · subst hv
      by_cases hl : j < (wipeR ρ vs).length
      · rw [List.getElem?_set_self hl] at e; cases e; rfl
      · rw [List.getElem?_eq_none (by simpa using hl)] at e; cases e
    · rw [List.getElem?_set_ne (Ne.symm hv)] at e
      exact ih ((List.mem_cons.mp h).resolve_left hv) e
theorem back_len (vs : List Nat) : (backR ρ ρ' vs).length = ρ'.length := by
  induction vs with
  | nil => rfl
  | cons v vs ih => unfold backR; rw [List.length_set, ih]
theorem back_at {vs : List Nat} {j : Nat} (h : j ∉ vs) : (backR ρ ρ' vs)[j]? = ρ'[j]? := by
  induction vs with
  | nil => rfl
  | cons v vs ih =>
    unfold backR
    rw [List.getElem?_set_ne (fun z => h (by rw [z]; exact List.mem_cons_self)), ih fun z => h (List.mem_cons_of_mem _ z)]
theorem back_in {vs : List Nat} {j : Nat} {c : Cell} (h : j ∈ vs) (e : (backR ρ ρ' vs)[j]? = some c) : c = backC ρ[j]? := by
  induction vs with
  | nil => cases h
  | cons v vs ih =>
    unfold backR at e
    by_cases hv : j = v
    · subst hv
      by_cases hl : j < (backR ρ ρ' vs).length
      · rw [List.getElem?_set_self hl] at e; cases e; rfl
      · rw [List.getElem?_eq_none (by simpa using hl)] at e; cases e
    · rw [List.getElem?_set_ne (Ne.symm hv)] at e
      exact ih ((List.mem_cons.mp h).resolve_left hv) e
/-- behind the block -/
theorem ER.back {vs : List Nat} (R0 : ER K RK g S H σ ρ) (R : ER K RK g S' H' (L2.wipe σ vs) ρ') (e : Same S S') : ER K RK g S' H' σ (backR ρ ρ' vs) := by
  have hown : ∀ j p, ownAt (backR ρ ρ' vs) j = some p → ownAt ρ' j = some p := fun j p h => by
    unfold ownAt at h ⊢
    by_cases hj : j ∈ vs
    · cases w : (backR ρ ρ' vs)[j]? with
      | none => rw [w] at h; cases h
      | some c =>
        rw [w] at h
        have z := back_in hj w
        subst z
        have h' : (backC ρ[j]?).at? = some p := h
        unfold backC at h'
        split at h' <;> cases h'
    · rw [back_at hj] at h; exact h
  refine ⟨R.rk, R.heok, R.sub, R.fr, R.vis, R.s0, R.fpS, R.res, by rw [back_len, R.len, wipe_length], fun j c h => ?_, fun i j p q h1 h2 => R.apart i j p q (hown i p h1) (hown j q h2), R.nt⟩
  by_cases hj : j ∈ vs
  · have z := back_in hj h
    subst z
    unfold backC
    split
    · rename_i d hd
      obtain ⟨v, h1, h2⟩ := R0.cell j _ hd
      exact ⟨v, h1, h2.up e⟩
    · trivial
  · rw [back_at hj] at h
    have z := R.cell j c h
    rw [wipe_at hj] at z
    exact z
theorem wipe_wipe {vs : List Nat} : L2.wipe (L2.wipe σ vs) vs = L2.wipe σ vs := by
  refine wipe_eq ⟨wipe_length σ vs, fun j hj => wipe_at hj⟩
end

/-! ### comprehensions -/
/-- nothing may be raised within -/
abbrev EX0 : EK := fun _ _ => False
def lcGo (b : DG) (t : DB) (e : DT) (vs : List Nat) (k : List D → Rho → Prop) : List D → List D → Rho → Prop
  | [], acc, ρ => k acc ρ
  | x :: r, acc, ρ => b x (wipeR ρ vs) fun ρ1 => t EX0 ρ1 fun c ρ2 => match c with
    | true => e EX0 ρ2 fun y ρ3 => lcGo b t e vs k r (acc ++ [y]) ρ3
    | false => lcGo b t e vs k r acc ρ2
@[simp] def dLc (di : DI) (b : DG) (t : DB) (e : DT) (vs : List Nat) : DF := fun E ρ Q => di E ρ fun its ρ1 => its.length ≤ sizeLine ∧ lcGo b t e vs (fun ds ρ2 => Q ds (backR ρ1 ρ2 vs)) its [] ρ1
@[simp] def dYes : DB := fun _ ρ Q => Q true ρ
section
variable {X : Cx} {RK : Res → Prop} {W : WX} {pos : Pos} {elt tg iter : Expr} {di : DI} {b : DG} {t : DB} {e : DT} {vs : List Nat}
theorem exc0 {K : PySem.W.Frag} {RK : Res → Prop} {g : G} {S : Hp} : ExC K RK W0 g S EX0 := fun _ _ _ _ _ _ _ _ _ _ z => z.elim
theorem lift_yes {K : PySem.W.Frag} {RK : Res → Prop} {W : WX} : ∀ σ H Q, liftB K RK W dYes σ H Q → tYes σ H Q := by
  rintro σ H Qh ⟨g, S, ρ, Q, E, R, h, hq, hx⟩
  exact hq true H S ρ R (Same.refl S) h
theorem ER.poke {K : PySem.W.Frag} {RK : Res → Prop} {g : G} {S H : Hp} {σ : L2.St} {ρ : Rho} {p : Addr} {o : HO} (R : ER K RK g S H σ ρ) (hS : S p = none) (he : g.He p = none) (hn : ∀ i, ownAt ρ i ≠ some p) : ER K RK g S (upd H p o) σ ρ := by
  have hpf : p ∉ g.r.fp := fun q => by
    obtain ⟨o, e⟩ := g.r.there _ _ R.heok p q
    rw [he] at e; cases e
  refine R.step (Same.refl S) (fun b u q => ?_) (fun a u ha q => ?_) (fun a u q => .inl q) R.fpS (g.r.st (Same.refl S) (fun a ha => upd_ne (show a ≠ p from fun z => hpf (z ▸ ha))) R.res) (fun i q hq => ⟨upd_ne (show q ≠ p from fun z => hn i (z ▸ hq)), (R.ownS hq).1⟩) R.nt
  · have hb : b ≠ p := fun z => by rw [z, hS] at q; cases q
    rw [upd_ne hb]; exact R.sub b u q
  · have hb : a ≠ p := fun z => by rw [z, he] at q; cases q
    rw [upd_ne hb]; exact R.fr a u ha q
theorem own_wipe {ρ : Rho} {vs : List Nat} {j : Nat} {p : Addr} (h : ownAt (wipeR ρ vs) j = some p) : ownAt ρ j = some p := by
  unfold ownAt at h ⊢
  by_cases hj : j ∈ vs
  · cases w : (wipeR ρ vs)[j]? with
    | none => rw [w] at h; cases h
    | some c => rw [w] at h; have z := wipeR_in hj w; subst z; cases h
  · rw [wipeR_at hj] at h; exact h
theorem back_wipe {ρ ρ' : Rho} {vs : List Nat} : backR ρ (wipeR ρ' vs) vs = backR ρ ρ' vs := by
  apply List.ext_getElem?
  intro j
  have hl : (backR ρ (wipeR ρ' vs) vs).length = (backR ρ ρ' vs).length := by rw [back_len, back_len, wipe_len]
  by_cases hj : j ∈ vs
  · by_cases hb : j < (backR ρ ρ' vs).length
    · have e1 := List.getElem?_eq_getElem hb
      have e2 := List.getElem?_eq_getElem (show j < (backR ρ (wipeR ρ' vs) vs).length by omega)
      rw [e1, e2, back_in hj e1, back_in hj e2]
    · rw [List.getElem?_eq_none (by omega), List.getElem?_eq_none (by omega)]
  · rw [back_at hj, back_at hj, wipeR_at hj]
theorem lift_lc : ∀ σ H Q, liftF X.K RK W (dLc di b t e vs) σ H Q → tLc (liftI X.K RK W di) (liftGv X.K RK vs b) (liftB X.K RK W0 t) (liftE X.K RK W0 e) vs σ H Q := by
  rintro σ H Qh ⟨g, S, ρ, Q, E, R, h, hq, hx⟩
  refine ⟨g, S, ρ, _, E, R, h, fun J its H1 S1 ρ1 R1 e1 G1 ⟨hsz, q1⟩ => ?_, hx⟩
  intro p hp
  obtain ⟨f1, f2, f3, f4⟩ := R1.fresh hp
  have f0 : g.S0 p = none := R1.s0.free f2
  have Rw := R1.wipe vs
  have fw := (Rw.fresh hp).2.2.2
  refine ⟨fun i m H' => m = its.length - i ∧ i ≤ its.length ∧ ∃ S' ρ' xs ds, ER X.K RK g S' H' (L2.wipe σ vs) (wipeR ρ' vs) ∧ Same S1 S' ∧ H' p = some (.lst xs) ∧ S' p = none ∧ (∀ j, ownAt (wipeR ρ' vs) j ≠ some p) ∧ Reps X.K S' xs ds ∧ ds.length ≤ i ∧
    lcGo b t e vs (fun ds ρ2 => Q ds (backR ρ1 ρ2 vs)) (its.drop i) ds ρ', ⟨its.length, rfl, Nat.zero_le _, S1, ρ1, [], [], Rw.alloc0 hp, Same.refl S1, upd_same, f2, fw, .nil, Nat.le_refl _, q1⟩, ?_⟩
  rintro i m H' ⟨rfl, hil, S', ρ', xs, ds, R', e', hH, hS, hn, rp, hds, q'⟩
  by_cases hlt : i < its.length
  · refine .inr ⟨(G1 i S' H' e' R'.sub).2.1 hlt, fun H2 => ∃ S' ρ' xs ds, ER X.K RK g S' H2 (L2.wipe σ vs) (wipeR ρ' vs) ∧ Same S1 S' ∧ H2 p = some (.lst xs) ∧ S' p = none ∧ (∀ j, ownAt (wipeR ρ' vs) j ≠ some p) ∧ Reps X.K S' xs ds ∧ ds.length ≤ i + 1 ∧
      lcGo b t e vs (fun ds ρ2 => Q ds (backR ρ1 ρ2 vs)) (its.drop (i + 1)) ds ρ', fun H2 z => ⟨its.length - (i + 1), by omega, rfl, hlt, z⟩, fun x H2 y => ?_⟩
    have Rp := R'.pin hH hS f1 hn
    obtain ⟨S2, d, hd, R2, e2, r2⟩ := Rp.yld e' G1 hlt y
    have hdrop : its.drop i = d :: its.drop (i + 1) := by
      rw [List.drop_eq_getElem_cons hlt]
      rw [List.getElem?_eq_getElem hlt] at hd
      cases hd; rfl
    rw [hdrop] at q'
    refine ⟨g.pin p (.lst xs), S2, wipeR ρ' vs, d, _, R2, r2, q', fun σ3 ρ3 R3 o3 q3 => ?_⟩
    have hw : L2.wipe σ3 vs = L2.wipe σ vs := (wipe_eq o3).trans wipe_wipe
    refine ⟨hw, g.pin p (.lst xs), S2, ρ3, _, EX0, R3, q3, fun c H4 S4 ρ4 R4 e4 q4 => ?_, exc0⟩
    cases c with
    | true =>
      refine iteT ?_
      refine ⟨g.pin p (.lst xs), S4, ρ4, _, EX0, R4, q4, fun v H5 S5 ρ5 z R5 e5 r5 q5 => ?_, exc0⟩
      obtain ⟨R6, h6, s6, n6⟩ := R5.unpin f1 f0 R1.heok
      have n7 : ∀ j, ownAt (wipeR ρ5 vs) j ≠ some p := fun j z => n6 j (own_wipe z)
      have R7 := R6.wipe vs
      rw [hw] at R7
      have e25 : Same S' S5 := (e2.trans e4).trans e5
      exact ⟨xs, h6, by rw [rp.length]; omega, S5, ρ5, xs ++ [v], ds ++ [z], R7.poke s6 f1 n7, e'.trans e25, upd_same, s6, n7, (rp.up e25).append (.one r5), by rw [List.length_append, List.length_singleton]; omega, q5⟩
    | false =>
      refine iteF ?_
      obtain ⟨R6, h6, s6, n6⟩ := R4.unpin f1 f0 R1.heok
      have n7 : ∀ j, ownAt (wipeR ρ4 vs) j ≠ some p := fun j z => n6 j (own_wipe z)
      have R7 := R6.wipe vs
      rw [hw] at R7
      have e25 : Same S' S4 := e2.trans e4
      exact ⟨S4, ρ4, xs, ds, R7, e'.trans e25, h6, s6, n7, rp.up e25, by omega, q4⟩
  · have hi' : i = its.length := by omega
    subst hi'
    rw [List.drop_length] at q'
    refine .inl ⟨(G1 _ S' H' e' R'.sub).1 (Nat.le_refl _), ?_⟩
    have Rb := R1.back R' e'
    rw [back_wipe] at Rb
    refine hq p xs H' S' _ ds Rb (e1.trans e') hH hS f1 (fun j z => ?_) rp q'
    have z2 := z
    rw [← back_wipe] at z2
    refine hn j ?_
    unfold ownAt at z2 ⊢
    by_cases hj : j ∈ vs
    · cases w : (backR ρ1 (wipeR ρ' vs) vs)[j]? with
      | none => rw [w] at z2; cases z2
      | some c =>
        rw [w] at z2
        have zz := back_in hj w
        subst zz
        have h' : (backC ρ1[j]?).at? = some p := z2
        unfold backC at h'
        split at h' <;> cases h'
    · rw [back_at hj] at z2; exact z2
variable {ifs : List Expr} {scope : Scope} {own : List (Str × Nat)}
variable (X : Cx) (RK : Res → Prop) in
/-- a comprehension's block: its targets, tests, element -/
structure Blk (scope : Scope) (vs : List Nat) (tg : Expr) (ifs : List Expr) (elt : Expr) (b : DG) (t : DB) (e : DT) : Prop where
  g : ∀ (s : Shared) (H : Hp) (C : Addr) (cl : List (Str × Addr)) (fp : List Addr), DGv (X.blk s H scope (compEnvC scope cl C X.env) fp) RK vs tg b
  t : ∀ (s : Shared) (H : Hp) (C : Addr) (cl : List (Str × Addr)) (fp : List Addr), PTs (X.blk s H scope (compEnvC scope cl C X.env) fp) ifs (liftB X.K RK W0 t)
  e : ∀ (s : Shared) (H : Hp) (C : Addr) (cl : List (Str × Addr)) (fp : List Addr), DE (X.blk s H scope (compEnvC scope cl C X.env) fp) RK W0 elt e
theorem df_lc (hc : X.calm = true) (hN : X.N.Nodup) (hi : DIt X RK W tg iter di) (ok : BlkOk X.N X.env.scope scope own) (B : Blk X RK scope (own.map (·.2)) tg ifs elt b t e) (hs : ∀ x, foldedSetIterable iter X.env x = pure x := by intro _; rfl) :
    DFr X RK W (.ListComp elt [⟨tg, iter, ifs, 0⟩] scope pos) (dLc di b t e (own.map (·.2))) := pe_weak (pe_lc hc hN hi ok B.g B.t B.e hs) lift_lc
/-- y = [..] -/
theorem st_lcD {y : Str} {py spos : Pos} (i : Nat) (hc : X.calm = true) (hN : X.N.Nodup) (hi : DIt X RK W tg iter di) (ok : BlkOk X.N X.env.scope scope own) (B : Blk X RK scope (own.map (·.2)) tg ifs elt b t e) (hy : X.N[i]? = some y := by rfl) (hyl : X.env.scope.names.lookup y = some .local := by rfl)
    (hsw : swapsWith (.ListComp elt [⟨tg, iter, ifs, 0⟩] scope pos) (some (.Name y py)) spos.line X.env = pure true := by exact sw_true rfl rfl rfl (by decide +kernel)) (hs : ∀ x, foldedSetIterable iter X.env x = pure x := by intro _; rfl) :
    DSt X RK W (.Assign [.Name y py] (.ListComp elt [⟨tg, iter, ifs, 0⟩] scope pos) spos) (dSet i (dOf (dLc di b t e (own.map (·.2))))) := ps_weak (ps_setLc hc hN hy hyl hsw hi ok B.g B.t B.e hs) (by
  rintro D σ H ⟨g, S, ρ, Kd, E, R, h, k1, k2, k3, k4, hx⟩
  refine lift_lc σ H _ ⟨g, S, ρ, _, E, R, h, fun p xs H1 S1 ρ1 ds R1 e1 h1 h2 h3 h4 r1 q1 => ?_, hx⟩
  obtain ⟨R2, e2⟩ := R1.see h1 h2 h3 h4
  exact k1 _ H1 _ _ (R2.setD' (.lst upd_same (r1.up e2))) (e1.trans e2) q1)
theorem st_lcO {y : Str} {py spos : Pos} (i : Nat) (hc : X.calm = true) (hN : X.N.Nodup) (hi : DIt X RK W tg iter di) (ok : BlkOk X.N X.env.scope scope own) (B : Blk X RK scope (own.map (·.2)) tg ifs elt b t e) (hy : X.N[i]? = some y := by rfl) (hyl : X.env.scope.names.lookup y = some .local := by rfl)
    (hsw : swapsWith (.ListComp elt [⟨tg, iter, ifs, 0⟩] scope pos) (some (.Name y py)) spos.line X.env = pure true := by exact sw_true rfl rfl rfl (by decide +kernel)) (hs : ∀ x, foldedSetIterable iter X.env x = pure x := by intro _; rfl) :
    DSt X RK W (.Assign [.Name y py] (.ListComp elt [⟨tg, iter, ifs, 0⟩] scope pos) spos) (dOwn i (dLc di b t e (own.map (·.2)))) := ps_weak (ps_setLc hc hN hy hyl hsw hi ok B.g B.t B.e hs) (by
  rintro D σ H ⟨g, S, ρ, Kd, E, R, h, k1, k2, k3, k4, hx⟩
  exact lift_lc σ H _ ⟨g, S, ρ, _, E, R, h, fun p xs H1 S1 ρ1 ds R1 e1 h1 h2 h3 h4 r1 q1 => k1 _ H1 S1 _ (R1.own h1 h2 h3 h4 r1) e1 (q1 p), hx⟩)
theorem ts_nil {X : Cx} {RK : Res → Prop} : PTs X [] (liftB X.K RK W0 dYes) := ⟨fun pins s σ H Q I q => pts_nil.run pins s σ H Q I (lift_yes σ H Q q)⟩
theorem ts_one {X : Cx} {RK : Res → Prop} {c : Expr} {t : DB} (h : DTs X RK W0 c t) : PTs X [c] (liftB X.K RK W0 t) := pts_one h
end
end DL
/-! DL11: the script, the drawing hand, the law's end -/
namespace DL
open PySem PySem.Spec PyProof.Rows L2

/-! ### the law's end -/
/-- what a law promises of its one argument, a list of at most n integers -/
def spLaw (K : PySem.W.Frag) (n : Nat) : Sp := fun vs H Q _ => ∃ (p : Addr) (zs : List Int), vs = [V.ref p] ∧ zs.length ≤ n ∧ SqL K H p (zs.map V.int) ∧ ∀ H', Q (.bl true) H'
theorem law_end {P : Program} {w : World} {K : PySem.W.Frag} {mg mb : Str → Option Value} {k n : Nat} {fa p : Addr} {x : Str} {s : Shared} {us : List Value} {zs : List Int}
    (hK : K.In s.heap) (hG : s.heap.Ns mainGlobals mg) (hB : s.heap.Ns builtinsNs mb) (hBB : ∀ x : Str, x ≠ "__name__" → mb x = bootBuiltins x) (hL : s.heap.NoLimit) (hgen : s.gens = #[])
    (hp : s.heap.get? p = some { cls := .type "list", data := .seq us.toArray }) (hz : IntsAre us zs) (hlz : zs.length ≤ sizeLine) (hln : zs.length ≤ n) (hrm : Room k callerA)
    (F : ∀ base : Heap, K.In base → base.Ns mainGlobals mg → ∃ fd : FuncData, (∀ (s : Shared) (u : Value), K.In s.heap → BindsTo s fd ⟨[u], []⟩ [(x, u)]) ∧ FnG true P w K mg base k fa fd [x] (spLaw K n)) :
    codeAny (model P w) callerA (.call (.ref fa) ⟨[.ref p], []⟩) (fun r t => r = .ok (.ret (.bool true)) ∧ OldK s.heap t.heap ∧ t.os = s.os ∧ AllBare t.gens) s := by
  have hvs := vals_ints hz
  have hul := hz.length
  -- the heap that is tracked: the script alone, unless it is the module's
  have ⟨H, hS, hok, hone, hfz⟩ : ∃ H : Hp, SqL K H p (zs.map V.int) ∧ HOk P w H s.heap ∧ (∀ b, H b ≠ none → b = p ∧ K.lookup p = none) ∧ ∀ b u, H b = some u → ∃ o ys, u = .frz o (.lst ys) := by
    cases hk : K.lookup p with
    | some o =>
      have e := hK p o hk
      rw [hp] at e
      cases e
      refine ⟨fun _ => none, .inr ⟨_, us.toArray, _, hk, rfl, rfl, rfl, ?_, by simpa using hvs⟩, fun b u z => ?_, fun b z => absurd rfl z, fun b u z => ?_⟩
      · rw [List.size_toArray, hul]; exact hlz
      · have z1 : (none : Option HO) = some u := z
        cases z1
      · have z1 : (none : Option HO) = some u := z
        cases z1
    | none =>
      refine ⟨upd (fun _ => none) p (.frz { cls := .type "list", data := .seq us.toArray } (.lst (zs.map V.int))), .inl (.inr ⟨_, upd_same⟩), fun b u z => ?_, fun b z => ?_, fun b u z => ?_⟩
      · by_cases hb : b = p
        · subst hb
          rw [upd_same] at z
          cases z
          exact ⟨hp, by rw [List.length_map]; exact hlz, us, _, hvs, hp⟩
        · rw [upd_ne hb] at z
          have z1 : (none : Option HO) = some u := z
          cases z1
      · refine ⟨Decidable.byContradiction fun hb => z ?_, rfl⟩
        exact upd_ne hb
      · by_cases hb : b = p
        · subst hb
          rw [upd_same] at z
          cases z
          exact ⟨_, _, rfl⟩
        · rw [upd_ne hb] at z
          have z1 : (none : Option HO) = some u := z
          cases z1
  have other : ∀ {b : Addr} {o : Obj}, s.heap.get? b = some o → (b = p → K.lookup p = none → False) → H b = none := fun {b o} e hne => by
    cases q : H b with
    | none => rfl
    | some u => exact (hne (hone b (by rw [q]; simp)).1 (hone b (by rw [q]; simp)).2).elim
  have inK : K.In (hidT s.heap H) := fun b o e => hidT_get (hK b o e) (other (hK b o e) fun e1 e2 => by subst e1; rw [e2] at e; cases e)
  have inNs : ∀ {b : Addr} {m : Str → Option Value}, s.heap.Ns b m → (hidT s.heap H).Ns b m := fun {b m} ⟨o, es, ep, e1, e2, e3⟩ => ⟨o, es, ep, hidT_get e1 (other e1 fun e4 _ => by
    subst e4
    rw [hp] at e1
    cases e1
    have e5 : Data.seq us.toArray _ = Data.dict es ep := e2
    cases e5), e2, e3⟩
  have hE : Env0 P w K mg (hidT s.heap H) callerA [] s H := by
    refine ⟨rfl, ⟨inK, inNs hG, ⟨mb, inNs hB, hBB⟩, ?_⟩, fun b o e => of_hidT e, Nat.le_of_eq (hidT_size _ _), trivial, fun b hb => ?_, hok, .of_eq hgen⟩
    · obtain ⟨mc, h1, h2⟩ := hL
      exact ⟨mc, inNs h1, h2⟩
    · have hb1 : b ∈ ([] : List Addr) := hb
      cases hb1
  obtain ⟨fd, hbd, F0⟩ := F _ inK (inNs hG)
  have call := F0.run callerA [] s H ⟨[.ref p], []⟩ [.ref p] [.ref p] (fun v _ => v = .bl true) (fun _ _ _ => False) hrm (fun _ => rfl) hE (hbd s (.ref p) hK) (.cons rfl .nil) ⟨p, zs, rfl, hln, hS, fun _ => rfl⟩
  apply codeAny_mono call
  intro r t h
  cases r with
  | error e =>
    obtain ⟨_, _, _, _, _, _, _, _, _, _, _, _, z⟩ := h
    exact z.elim
  | ok fl =>
    cases fl with
    | ret u =>
      obtain ⟨v, H', h1, h2, h3, h4, h5, h6⟩ := h
      have h7 : v = .bl true := h6
      subst h7
      obtain rfl : u = Value.bool true := h5
      refine ⟨rfl, OldK.of_keep fun b o e => ?_, h1, h2⟩
      cases q : H b with
      | none =>
        refine h3.keep b o e q (fun hb => ?_) fun hb => ?_
        · have hb1 : b ∈ ([] : List Addr) := hb
          cases hb1
        · cases hb
      | some y =>
        obtain ⟨o1, ys, rfl⟩ := hfz b y q
        have a1 := (hok b _ q).1
        have a2 := (h4 b _ (h3.frzs b o1 _ q)).1
        rw [e] at a1
        cases a1
        exact a2
    | next => exact False.elim h
    | brk => exact False.elim h
    | cont => exact False.elim h
theorem walk_G {l : PySem.W.OpenLaw} {n k : Nat} {q : Program} {loose : List Str} {XP : (Str → Option Value) → Heap → Prop} {YP : World → Heap → Prop} {d : DefRec} {K : Params → PySem.W.Frag} {x : Str}
    (hn : l.most = some n) (hn2 : n ≤ sizeLine) (hdf : d.params.defaults = []) (hr : Room k callerA) (hY : ∀ (w : World) (h : Heap), YP w h → (K w.params).In h)
    (F : ∀ (w : World) (mg : Str → Option Value) (fa : Addr) (h : Heap), (K w.params).In h → h.Ns mainGlobals mg → mg d.name = some (.ref fa) →
      ∀ base : Heap, (K w.params).In base → base.Ns mainGlobals mg → ∃ fd : FuncData, (∀ (s : Shared) (u : Value), (K w.params).In s.heap → BindsTo s fd ⟨[u], []⟩ [(x, u)]) ∧ FnG true l.prog w (K w.params) mg base k fa fd [x] (spLaw (K w.params) n)) :
    PySem.W.WalkO q loose XP YP l.row.toRowW d [] (fun f vs => PySem.call f vs) := by
  apply Att.attach_call hn hdf
  intro w s₀ s mg mb fa o pm cd doc p us zs G Y ho hd hcd hmg hp hz hlen hgen
  have hK := hY w _ Y
  exact law_end hK G.T.g G.T.b G.T.builtins G.T.nolimit hgen hp hz (Nat.le_trans hlen hn2) hlen hr (F w mg fa _ hK G.T.g hmg)

/-! ### the script -/
def scrRK (K : PySem.W.Frag) (zs : List Int) : Res → Prop := fun r => ∀ S H, r.ok S H → SqL K H r.p (zs.map V.int)
theorem scr_res {K : PySem.W.Frag} {H : Hp} {p : Addr} {zs : List Int} (h : SqL K H p (zs.map V.int)) : ∃ r : Res, r.p = p ∧ scrRK K zs r ∧ r.ok (fun _ => none) H := by
  rcases h with h | h
  · refine ⟨⟨p, [p], fun _ H => Rd H p (.lst (zs.map V.int)), fun {S S' H H'} _ e q => ?_, fun S H q a ha => ?_⟩, rfl, fun S H q => .inl q, h⟩
    · have e1 := e p (List.mem_singleton.mpr rfl)
      unfold Rd at q ⊢
      rw [e1]; exact q
    · rw [List.mem_singleton.mp ha]
      rcases q with q | ⟨o, q⟩
      · exact ⟨_, q⟩
      · exact ⟨_, q⟩
  · exact ⟨⟨p, [], fun _ _ => True, fun _ _ _ => trivial, fun _ _ _ a ha => by cases ha⟩, rfl, fun S H _ => .inr h, trivial⟩
/-- script[:k], script the resource -/
@[simp] def dScr (zs : List Int) (i k : Nat) : DT := fun _ ρ Q => ρ[i]? = some .res ∧ Q (.lst ((zs.take k).map D.int)) ρ
theorem cut_take {zs : List Int} {k : Nat} : cutV (zs.map V.int) none (some (k : Int)) = (zs.take k).map V.int := by
  unfold cutV HT.sIx
  simp only [List.length_map]
  have h0 : ¬ ((k : Int) < 0) := by omega
  simp [h0, List.map_take]
section
variable {X : Cx} {zs : List Int} {W : WX} {pos p1 p2 p3 : Pos} {x : Str} {j : Nat}
theorem de_scr (i k : Nat) (hN : X.N[i]? = some x := by rfl) (hv : Vis X.env.scope x := by first | exact Or.inl rfl | exact Or.inr (Or.inl rfl) | exact Or.inr (Or.inr rfl)) (hd : (x == ("__debug__" : Str)) = false := by decide)
    (hcd : (x == ("__classdict__" : Str)) = false := by decide) : DE X (scrRK X.K zs) W (.Subscript (.Name x p1) (.Slice none (some (.Constant (.int (k : Int)) j p3)) none p2) pos) (dScr zs i k) :=
  pe_weak (pe_slice sl_list (pe_var hN hv hd hcd) po_none (po_some pe_int)) (by
  rintro σ H Qh ⟨g, S, ρ, Q, E, R, ⟨h0, h⟩, hq, hx⟩
  have hz : σ[i]? = some (some (.ref g.r.p)) := R.cell i _ h0
  refine ⟨_, hz, _, rfl, _, _, rfl, R.rk S H R.res, fun p hp => ?_⟩
  obtain ⟨R2, e2⟩ := R.alloc (o := .lst (cutV (zs.map V.int) none (some (k : Int)))) hp
  refine hq _ _ _ ρ _ R2 e2 (.lst upd_same ?_) h
  rw [cut_take]
  exact Reps.of_ints)
end
end DL
/-! DL12: the drawing hand -/
namespace DL
open PySem PySem.Spec PyProof.Rows L2

/-! ### a list that is changed by what it is handed to -/
def lres (K : PySem.W.Frag) (inv : List D → Prop) (p : Addr) : Res where
  p := p
  fp := [p]
  ok := fun S H => ∃ xs hs, H p = some (.lst xs) ∧ Reps K S xs hs ∧ inv hs
  st := fun {S S' H H'} e h ⟨xs, hs, h1, h2, h3⟩ => ⟨xs, hs, (h p (List.mem_singleton.mpr rfl)).trans h1, h2.up e, h3⟩
  there := fun S H ⟨xs, hs, h1, h2, h3⟩ a ha => by
    have e := List.mem_singleton.mp ha
    subst e
    exact ⟨_, h1⟩
def lRK (K : PySem.W.Frag) (inv : List D → Prop) : Res → Prop := fun r => ∃ p, r = lres K inv p
section
variable {P : Program} {w : World} {K : PySem.W.Frag} {mg : Str → Option Value} {base : Heap} {x qual p0 : Str} {st : Stmt} {f : Addr} {fd : FuncData} {N ps : List Str} {k : Nat} {T : TSp} {d : DS} {inv : List D → Prop} {γ : Bool}
/-- THE RULE for a def that changes the list that is its first argument -/
theorem def_h (F : Fun K x qual st f fd) (Sc : FnScope N (p0 :: ps) (defScope st)) (hlen : ∀ ds R E, T ds R E → ds.length = ps.length)
    (hd : ∀ (cdv : Value) (A : Around) (outer : List Env) (s : Shared) (H : Hp) (E : XK), Room k (A.deeper (envOfC qual (defScope st) s.heap.objs.size f cdv)) → GdB γ (A.deeper (envOfC qual (defScope st) s.heap.objs.size f cdv)) →
      DSs (cxOf (L2.CX P w) P w K mg base N qual (defScope st) f cdv A outer s H E) (fun _ => True) (fun cls dd _ H' => E cls dd H') (defBody st) d)
    (hq : ∀ ds R E hs p, T ds R E → inv hs → d (fun _ _ => False) { nx := fun ρ => ∃ hs', ρ[0]? = some (.own p hs') ∧ inv hs' ∧ R .non, rt := fun x ρ => ∃ hs', ρ[0]? = some (.own p hs') ∧ inv hs' ∧ R x } (.own p hs :: rho0 (N.length - 1) ds)) :
    FnG γ P w K mg base (k + 1) f fd (p0 :: ps) (spR K (lRK K inv) T) := by
  obtain ⟨oc, od, kV, doc, pm, an, cdv, ct, osl, rfl, lk, hcd⟩ := F.ex
  have len : ∀ vs H Q E, spR K (lRK K inv) T vs H Q E → vs.length = (p0 :: ps).length := by
    rintro vs H Q E ⟨r, vs', S, ds, _, _, rfl, _, _, _, rp, t⟩
    rw [List.length_cons, List.length_cons, rp.length, hlen _ _ _ t]
  apply fnG_of lk hcd Sc len
  intro A outer s H vs Q E hr hg hs
  have hvl := len vs H Q E hs
  have hpl : (p0 :: ps).length ≤ N.length := by have := congrArg List.length Sc.pre; rw [List.length_take] at this; omega
  refine ⟨_, hd cdv A outer s H E hr hg, ?_⟩
  obtain ⟨r, vs', S, ds, ⟨p, rfl⟩, ⟨xs, hs, o1, o2, o3⟩, rfl, sub, ntS, fpS, rp, t⟩ := hs
  have o1 : H p = some (.lst xs) := o1
  have hdl : ds.length = ps.length := hlen _ _ _ t
  have hSp : S p = none := fpS p (List.mem_singleton.mpr rfl)
  let He : Hp := fun a => if a = p then none else H a
  have he1 : He p = none := if_pos rfl
  have he2 : ∀ {a}, a ≠ p → He a = H a := fun {a} h => if_neg h
  rw [List.length_cons] at hpl
  have hown : ∀ i q, ownAt (.own p hs :: rho0 (N.length - 1) ds) i = some q → i = 0 ∧ q = p := by
    intro i q e
    cases i with
    | zero => exact ⟨rfl, (Option.some.inj e).symm⟩
    | succ i => exact absurd (show ownAt (rho0 (N.length - 1) ds) i = some q from e) (by rw [own_rho0]; simp)
  have R0 : ER K (fun _ => True) ⟨He, S, noRes⟩ S H (L2.start N (V.ref p :: vs')) (.own p hs :: rho0 (N.length - 1) ds) := by
    refine ⟨trivial, trivial, sub, fun a o _ e => ?_, fun a o e => .inl e, Same.refl S, fun a ha => (by cases ha), trivial, ?_, fun i c e => ?_, fun i j a b h1 h2 hne => ?_, ntS⟩
    · by_cases h : a = p
      · subst h
        have e1 : He a = some o := e
        rw [he1] at e1; cases e1
      · rw [← he2 h]; exact e
    · rw [start_len (by rw [List.length_cons, rp.length]; omega)]
      unfold rho0
      rw [List.length_cons, List.length_append, List.length_map, List.length_replicate]; omega
    · cases i with
      | zero =>
        have e' : Cell.own p hs = c := Option.some.inj e
        subst e'
        rw [start_get (by simp)]
        exact ⟨rfl, hSp, he1, xs, o1, o2⟩
      | succ i =>
        have e' : (rho0 (N.length - 1) ds)[i]? = some c := e
        refine rho0_cell rp e' fun h => ?_
        rw [start_get (by simpa using h)]
        rfl
    · exact absurd ((hown i a h1).1.trans (hown j b h2).1.symm) hne
  have fin : ∀ {σ' H' S' ρ' hs'}, ER K (fun _ => True) ⟨He, S, noRes⟩ S' H' σ' ρ' → ρ'[0]? = some (.own p hs') → inv hs' →
      (∀ a o, a ∉ (lres K inv p).fp → H a = some o → H' a = some o) ∧ (lres K inv p).ok S' H' ∧ Same S' H' ∧ (∀ a o, S' a = some o → S a = some o ∨ H a = none) ∧ NTS S' := by
    intro σ' H' S' ρ' hs' R e0 hi
    obtain ⟨c1, c2, c3, ys, c4, c5⟩ := R.cell 0 _ e0
    refine ⟨fun a o ha e => ?_, ⟨ys, hs', c4, c5, hi⟩, R.sub, fun a o e => ?_, R.nt⟩
    · have hne : a ≠ p := fun z => ha (List.mem_singleton.mpr z)
      exact R.fr a o (by intro z; cases z) ((he2 hne).trans e)
    · have hne : a ≠ p := fun z => by subst z; rw [c2] at e; cases e
      rcases R.vis a o e with z | z
      · exact .inl z
      · exact .inr ((he2 hne).symm.trans z)
  refine ⟨_, S, _, _, _, R0, hq ds _ _ hs p t o3, ?_, ?_, fun _ _ _ _ _ _ z => z.elim, fun _ _ _ _ _ _ z => z.elim, fun _ _ _ _ _ _ _ _ _ _ z => z.elim⟩
  · rintro σ' H' S' ρ' R e ⟨hs', e0, hi, q⟩
    obtain ⟨a, b, c, d, n⟩ := fin R e0 hi
    exact q .non H' S' a b e c d n .non
  · rintro v σ' H' S' ρ' y R e ry ⟨hs', e0, hi, q⟩
    obtain ⟨a, b, c, d, n⟩ := fin R e0 hi
    exact q v H' S' a b e c d n ry

/-! ### the hand of a law -/
def hInv (hs : List D) : Prop := ∃ (ms : List Int) (a b c e : Int), hs = [.lst (ms.map D.int), .int a, .int b, .int c, .int e] ∧ (∀ m ∈ ms, 0 ≤ m) ∧ 0 ≤ a ∧ 0 ≤ b ∧ 0 ≤ c ∧ 0 ≤ e
/-- what _law_hand gives -/
def THand : TSp := fun ds R _ => ds = [] ∧ ∀ hs, hInv hs → R (.lst hs)
theorem mono_THand : MonoT THand := fun ds R R' E E' h _ ⟨h1, h2⟩ => ⟨h1, fun hs hi => h _ (h2 hs hi)⟩
/-- what _law_draw gives -/
def TDraw : TSp := fun ds R _ => ∃ n, ds = [.int n] ∧ (0 < n ∧ n < 2 ^ 200) ∧ ∀ i, 0 ≤ i → i < n → R (.int i)
theorem mono_TDraw : MonoT TDraw := fun ds R R' E E' h _ ⟨n, h1, h2, h3⟩ => ⟨n, h1, h2, fun i a b => h _ (h3 i a b)⟩
abbrev RKh (K : PySem.W.Frag) : Res → Prop := lRK K hInv

/-- THE RULE for the law's def: hand = _law_hand(script), then the rest -/
theorem def_law {n : Nat} {s1 : Stmt} {rest : List Stmt} {t : DS} (F : Fun K x qual st f fd) (Sc : FnScope N [p0] (defScope st)) (hbody : defBody st = s1 :: rest)
    (hd : ∀ (zs : List Int) (cdv : Value) (A : Around) (outer : List Env) (s : Shared) (H : Hp) (E : XK), Room k (A.deeper (envOfC qual (defScope st) s.heap.objs.size f cdv)) → GdB γ (A.deeper (envOfC qual (defScope st) s.heap.objs.size f cdv)) →
      DSt (cxOf (L2.CX P w) P w K mg base N qual (defScope st) f cdv A outer s H E) (scrRK K zs) (fun cls dd _ H' => E cls dd H') s1 (dSet 1 (dCallR THand 0 dANil)) ∧
      DSs (cxOf (L2.CX P w) P w K mg base N qual (defScope st) f cdv A outer s H E) (RKh K) (fun cls dd _ H' => E cls dd H') rest t)
    (hN : 2 ≤ N.length) (hq : t (fun _ _ => False) { nx := fun _ => False, rt := fun x _ => x = .bl true } (.un :: .res :: List.replicate (N.length - 2) .un)) :
    FnG γ P w K mg base (k + 1) f fd [p0] (spLaw K n) := by
  obtain ⟨oc, od, kV, doc, pm, an, cdv, ct, osl, rfl, lk, hcd⟩ := F.ex
  have len : ∀ vs H Q E, spLaw K n vs H Q E → vs.length = [p0].length := by
    rintro vs H Q E ⟨p, zs, rfl, _⟩
    rfl
  apply fnG_of lk hcd Sc len
  rintro A outer s H vs Q E hr hg ⟨p, zs, rfl, hz, hS, hQ⟩
  rw [hbody]
  obtain ⟨D1, D2⟩ := hd zs cdv A outer s H E hr hg
  refine ⟨_, pss_cons D1 D2, ?_⟩
  obtain ⟨r, rfl, rk, ok⟩ := scr_res hS
  have R0 : ER K (scrRK K zs) ⟨H, fun _ => none, r⟩ (fun _ => none) H (L2.start N [V.ref r.p]) (.res :: List.replicate (N.length - 1) .un) := by
    refine ⟨rk, ok, fun a o e => ?_, fun a o _ e => e, fun a o e => .inl e, Same.refl _, fun a _ => rfl, ok, ?_, fun i c e => ?_, fun i j a b h1 => ?_, fun a o e => by cases e⟩
    · have e1 : (none : Option HO) = some o := e
      cases e1
    · rw [start_len (by rw [List.length_singleton]; omega), List.length_cons, List.length_replicate]; omega
    · cases i with
      | zero =>
        have e' : Cell.res = c := Option.some.inj e
        subst e'
        rw [start_get (by simp)]
        rfl
      | succ i =>
        have e' : (List.replicate (N.length - 1) Cell.un)[i]? = some c := e
        rw [List.getElem?_replicate] at e'
        split at e'
        · cases e'; trivial
        · cases e'
    · have e : ownAt (Cell.res :: List.replicate (N.length - 1) Cell.un) i = none := by
        cases i with
        | zero => rfl
        | succ i =>
          show ownAt (List.replicate (N.length - 1) Cell.un) i = none
          unfold ownAt
          rw [List.getElem?_replicate]
          split <;> rfl
      rw [e] at h1; cases h1
  refine ⟨_, _, _, { nx := fun ρ => ρ.length = N.length ∧ ∃ hs, hInv hs ∧ ρ[1]? = some (.dat (.lst hs)), rt := fun _ _ => False }, fun _ _ => False, R0, ?_, ?_, fun _ _ _ _ _ _ _ _ _ z => z.elim, fun _ _ _ _ _ _ z => z.elim, fun _ _ _ _ _ _ z => z.elim, fun _ _ _ _ _ _ _ _ _ _ z => z.elim⟩
  · refine ⟨rfl, rfl, fun hs hi => ⟨by rw [List.length_set, List.length_cons, List.length_replicate]; omega, hs, hi, ?_⟩⟩
    exact List.getElem?_set_self (by rw [List.length_cons, List.length_replicate]; omega)
  · rintro σ1 H1 S1 ρ1 R1 e1 ⟨hl, hs, hi, h0⟩
    obtain ⟨v, c1, c2⟩ := R1.cell 1 _ h0
    have hσ : σ1.length = ρ1.length := R1.len.symm
    cases c2 with
    | @lst q xs _ c2 c3 =>
      obtain ⟨ms, a, b, c, e, rfl, i1, i2, i3, i4, i5⟩ := hi
      match xs, c3 with
      | [x0, x1, x2, x3, x4], .cons r0 (.cons r1 (.cons r2 (.cons r3 (.cons r4 .nil)))) =>
        cases r1; cases r2; cases r3; cases r4
        cases r0 with
        | @lst u ys _ d1 d2 =>
          have hne : u ≠ q := by
            rintro rfl
            rw [c2] at d1
            cases d1
            cases ms with
            | nil => cases d2
            | cons m ms =>
              have d3 := d2
              cases d3 with
              | cons d4 d5 => cases d4
          have R2 : ER K (RKh K) ⟨H1, upd (fun _ => none) u (.lst ys), lres K hInv q⟩ (upd (fun _ => none) u (.lst ys)) H1 σ1 ((List.replicate ρ1.length Cell.un).set 1 .res) := by
            have hok : (lres K hInv q).ok (upd (fun _ => none) u (.lst ys)) H1 :=
              ⟨_, [.lst (ms.map D.int), .int a, .int b, .int c, .int e], R1.sub _ _ c2, .cons (.lst upd_same (by rw [Reps.ints d2]; exact Reps.of_ints)) (.cons (.int _) (.cons (.int _) (.cons (.int _) (.cons (.int _) .nil)))), ms, a, b, c, e, rfl, i1, i2, i3, i4, i5⟩
            refine ⟨⟨q, rfl⟩, hok, fun a o z => ?_, fun a o _ z => z, fun a o z => .inl z, Same.refl _, fun a ha => ?_, hok, by rw [List.length_set, List.length_replicate]; exact R1.len, fun i c z => ?_, fun i j a b z => ?_, NTS.upd (fun a o e => by cases e) (by intro ps z; cases z)⟩
            · by_cases h : a = u
              · subst h
                rw [upd_same] at z
                cases z
                exact R1.sub _ _ d1
              · rw [upd_ne h] at z
                have z1 : (none : Option HO) = some o := z
                cases z1
            · have e := List.mem_singleton.mp (show a ∈ [q] from ha)
              subst e
              rw [upd_ne (Ne.symm hne)]
            · by_cases h : i = 1
              · subst h
                have hl : 1 < (List.replicate ρ1.length Cell.un).length := by
                  rw [List.length_replicate]
                  exact (List.getElem?_eq_some_iff.mp h0).1
                rw [List.getElem?_set_self hl] at z
                cases z
                exact c1
              · rw [List.getElem?_set_ne (Ne.symm h), List.getElem?_replicate] at z
                split at z
                · cases z; trivial
                · cases z
            · have e : ownAt ((List.replicate ρ1.length Cell.un).set 1 .res) i = none := by
                unfold ownAt
                by_cases h : i = 1
                · subst h
                  by_cases hl : 1 < (List.replicate ρ1.length Cell.un).length
                  · rw [List.getElem?_set_self hl]; rfl
                  · rw [List.getElem?_eq_none (by rw [List.length_set]; omega)]; rfl
                · rw [List.getElem?_set_ne (Ne.symm h), List.getElem?_replicate]
                  split <;> rfl
              rw [e] at z; cases z
          have hρ : (List.replicate ρ1.length Cell.un).set 1 .res = .un :: .res :: List.replicate (N.length - 2) .un := by
            rw [hl]
            obtain ⟨m, hm⟩ : ∃ m, N.length = m + 2 := ⟨N.length - 2, by omega⟩
            rw [hm]
            rfl
          rw [hρ] at R2
          refine ⟨_, _, _, _, _, R2, hq, fun _ _ _ _ _ _ z => z.elim, ?_, fun _ _ _ _ _ _ z => z.elim, fun _ _ _ _ _ _ z => z.elim, fun _ _ _ _ _ _ _ _ _ _ z => z.elim⟩
          intro v σ' H' S' ρ' y R' e' ry hy
          subst hy
          cases ry
          exact hQ H'
end
end DL
/-! DL13: dicts -/
namespace DL
open PySem PySem.Spec PyProof.Rows L2

abbrev KD := List (Key × D)
def putD (kvs : KD) (k : Key) (d : D) : KD := if (kvs.any fun kv => decide (kv.1 = k)) = true then kvs.map (fun kv => if kv.1 = k then (kv.1, d) else kv) else kvs ++ [(k, d)]
def valD (kvs : KD) (k : Key) : Option D := (kvs.find? fun kv => decide (kv.1 = k)).map (·.2)
def D.key? : D → Option Key
  | .int i => some (.inl i)
  | .str x => some (.inr x)
  | _ => none
inductive KReps (K : PySem.W.Frag) (S : Hp) : List (Key × V) → KD → Prop where
  | nil : KReps K S [] []
  | cons {k : Key} {v : V} {d : D} {kvs : List (Key × V)} {kds : KD} : Rep K S v d → KReps K S kvs kds → KReps K S ((k, v) :: kvs) ((k, d) :: kds)
section
variable {K : PySem.W.Frag} {S S' : Hp}
theorem KReps.keys : ∀ {kvs : List (Key × V)} {kds : KD}, KReps K S kvs kds → kvs.map (·.1) = kds.map (·.1)
  | _, _, .nil => rfl
  | _, _, .cons _ t => by rw [List.map_cons, List.map_cons, KReps.keys t]
theorem KReps.vals : ∀ {kvs : List (Key × V)} {kds : KD}, KReps K S kvs kds → Reps K S (kvs.map (·.2)) (kds.map (·.2))
  | _, _, .nil => .nil
  | _, _, .cons r t => .cons r (KReps.vals t)
theorem KReps.of : ∀ {kvs : List (Key × V)} {kds : KD}, kvs.map (·.1) = kds.map (·.1) → Reps K S (kvs.map (·.2)) (kds.map (·.2)) → KReps K S kvs kds
  | [], [], _, _ => .nil
  | [], _ :: _, e, _ => by simp at e
  | _ :: _, [], e, _ => by simp at e
  | (k, v) :: kvs, (k', d) :: kds, e, r => by
    rw [List.map_cons, List.map_cons] at e
    injection e with e1 e2
    have e1 : k = k' := e1
    subst e1
    cases r with
    | cons r1 r2 => exact .cons r1 (KReps.of e2 r2)
theorem KReps.of2 : ∀ {kvs : List (Key × V)} {ks : List Key} {ds : List D}, kvs.map (·.1) = ks → Reps K S (kvs.map (·.2)) ds → KReps K S kvs (ks.zip ds)
  | [], _, [], rfl, _ => .nil
  | [], _, _ :: _, _, r => by cases r
  | (k, v) :: kvs, _, [], _, r => by cases r
  | (k, v) :: kvs, _, d :: ds, rfl, .cons r1 r2 => .cons r1 (KReps.of2 rfl r2)
theorem zipK : ∀ kds : KD, (kds.map (·.1)).zip (kds.map (·.2)) = kds
  | [] => rfl
  | (k, d) :: r => by rw [List.map_cons, List.map_cons, List.zip_cons_cons, zipK r]
theorem KReps.up (e : Same S S') : ∀ {kvs : List (Key × V)} {kds : KD}, KReps K S kvs kds → KReps K S' kvs kds
  | _, _, .nil => .nil
  | _, _, .cons r t => .cons (r.up e) (KReps.up e t)
theorem KReps.length : ∀ {kvs : List (Key × V)} {kds : KD}, KReps K S kvs kds → kvs.length = kds.length
  | _, _, .nil => rfl
  | _, _, .cons _ t => by simp [KReps.length t]
theorem KReps.val {k : Key} : ∀ {kvs : List (Key × V)} {kds : KD}, KReps K S kvs kds → (valV kvs k = none ∧ valD kds k = none) ∨ ∃ v d, valV kvs k = some v ∧ valD kds k = some d ∧ Rep K S v d
  | _, _, .nil => .inl ⟨rfl, rfl⟩
  | _, _, @KReps.cons _ _ k' v d kvs kds r t => by
    unfold valV valD
    rw [List.find?_cons, List.find?_cons]
    by_cases h : k' = k
    · subst h
      exact .inr ⟨v, d, by simp, by simp, r⟩
    · rw [decide_eq_false (show ¬ ((k', v) : Key × V).1 = k from h)]
      exact KReps.val t
theorem KReps.append : ∀ {kvs kvs' : List (Key × V)} {kds kds' : KD}, KReps K S kvs kds → KReps K S kvs' kds' → KReps K S (kvs ++ kvs') (kds ++ kds')
  | _, _, _, _, .nil, h => by simpa using h
  | _, _, _, _, .cons r t, h => .cons r (KReps.append t h)
theorem KReps.anyK {k : Key} : ∀ {kvs : List (Key × V)} {kds : KD}, KReps K S kvs kds → (kvs.any fun kv => decide (kv.1 = k)) = (kds.any fun kv => decide (kv.1 = k))
  | _, _, .nil => rfl
  | _, _, .cons _ t => by rw [List.any_cons, List.any_cons, KReps.anyK t]
theorem KReps.mapK {k : Key} {v : V} {d : D} (r : Rep K S v d) : ∀ {kvs : List (Key × V)} {kds : KD}, KReps K S kvs kds → KReps K S (kvs.map fun kv => if kv.1 = k then (kv.1, v) else kv) (kds.map fun kv => if kv.1 = k then (kv.1, d) else kv)
  | _, _, .nil => .nil
  | _, _, @KReps.cons _ _ k' v' d' kvs kds q t => by
    rw [List.map_cons, List.map_cons]
    by_cases h : k' = k
    · rw [if_pos h, if_pos h]; exact .cons r (KReps.mapK r t)
    · rw [if_neg h, if_neg h]; exact .cons q (KReps.mapK r t)
theorem KReps.put {kvs : List (Key × V)} {kds : KD} {k : Key} {v : V} {d : D} (h : KReps K S kvs kds) (r : Rep K S v d) : KReps K S (putK kvs k v) (putD kds k d) := by
  unfold putK putD
  rw [h.anyK]
  split
  · exact KReps.mapK r h
  · exact h.append (.cons r .nil)
theorem Rep.key {x : D} {v : V} {k : Key} (r : Rep K S v x) (h : x.key? = some k) : v = kV k := by
  cases x <;> simp only [D.key?, Option.some.injEq] at h <;> first | cases h; done | skip
  · subst h; cases r; rfl
  · subst h; cases r; rfl
end

/-! ### looks -/
/-- x in d, d[x] -/
def fInK (x y : D) (k : D → Prop) : Prop := match y with
  | .dct ks ds => ∃ q, x.key? = some q ∧ k (.bl (valD (ks.zip ds) q).isSome)
  | _ => fIn x y k
def fNotInK (x y : D) (k : D → Prop) : Prop := match y with
  | .dct ks ds => ∃ q, x.key? = some q ∧ k (.bl (!(valD (ks.zip ds) q).isSome))
  | _ => fNotIn x y k
def fIxK (x y : D) (k : D → Prop) : Prop := match x with
  | .dct ks ds => ∃ q z, y.key? = some q ∧ valD (ks.zip ds) q = some z ∧ k z
  | _ => fIx x y k
def rDIn (b : Bool) : R2 := fun y x H Q => ∃ a o, x = .ref a ∧ DGet H a y o ∧ Q (.bl (o.isSome == b)) H
theorem beqT (b : Bool) : (b == true) = b := by cases b <;> rfl
theorem beqF (b : Bool) : (b == false) = !b := by cases b <;> rfl
theorem op_dIn {X : Cx} (hu : X.A.units + 65 < cLine) : OpR X (compareOp .In) (rDIn true) := by
  intro pins s σ H y x iv u Q I ry rx ⟨a, o, e, g, q⟩
  subst e
  obtain rfl : u = Value.ref a := rx
  rw [beqT] at q
  exact d_in (by omega) I g ry fun s3 I3 => ⟨.bl o.isSome, H, I3, rfl, q⟩
theorem op_dNotIn {X : Cx} (hu : X.A.units + 65 < cLine) : OpR X (compareOp .NotIn) (rDIn false) := by
  intro pins s σ H y x iv u Q I ry rx ⟨a, o, e, g, q⟩
  subst e
  obtain rfl : u = Value.ref a := rx
  rw [beqF] at q
  exact d_notIn (by omega) I g ry fun s3 I3 => ⟨.bl (!o.isSome), H, I3, rfl, q⟩
def rInK (K : PySem.W.Frag) : R2 := fun x y H Q => rInAll K x y H Q ∨ rDIn true x y H Q
def rNotInK (K : PySem.W.Frag) : R2 := fun x y H Q => rNotInAll K x y H Q ∨ rDIn false x y H Q
section
variable {X : Cx}
theorem op_inK (hu : X.A.units + 65 < cLine) : OpR X (compareOp .In) (rInK X.K) := (op_inAll hu).or (op_dIn hu)
theorem op_notInK (hu : X.A.units + 65 < cLine) : OpR X (compareOp .NotIn) (rNotInK X.K) := (op_notInAll hu).or (op_dNotIn hu)
theorem dget_of {K : PySem.W.Frag} {S H : Hp} {a : Addr} {kvs : List (Key × V)} {x : D} {v : V} {q : Key} (h : H a = some (.dK kvs)) (r : Rep K S v x) (hk : x.key? = some q) : DGet H a v (valV kvs q) :=
  .inl ⟨kvs, q, .inl h, r.key hk, rfl⟩
theorem isSome_val {K : PySem.W.Frag} {S : Hp} {kvs : List (Key × V)} {kds : KD} (h : KReps K S kvs kds) (k : Key) : (valV kvs k).isSome = (valD kds k).isSome := by
  rcases h.val (k := k) with ⟨a, b⟩ | ⟨v, d, a, b, _⟩ <;> rw [a, b] <;> rfl
theorem opd_inK : OpD X.K (rInK X.K) fInK := by
  intro RK g S H σ ρ x y v u k Qh R rx ry h hq
  cases y with
  | dct ks ds =>
    obtain ⟨q, hk, h⟩ := h
    cases ry with
    | dct h1 h2 h3 =>
      refine .inr ⟨_, _, rfl, dget_of (R.sub _ _ h1) rx hk, ?_⟩
      rw [isSome_val (KReps.of2 h2 h3) q]
      rw [beqT]
      exact hq _ H S _ R (Same.refl S) (.bl _) h
  | _ => exact .inl (opd_in RK g S H σ ρ x _ v u k Qh R rx ry h hq)
theorem opd_notInK : OpD X.K (rNotInK X.K) fNotInK := by
  intro RK g S H σ ρ x y v u k Qh R rx ry h hq
  cases y with
  | dct ks ds =>
    obtain ⟨q, hk, h⟩ := h
    cases ry with
    | dct h1 h2 h3 =>
      refine .inr ⟨_, _, rfl, dget_of (R.sub _ _ h1) rx hk, ?_⟩
      rw [isSome_val (KReps.of2 h2 h3) q]
      rw [beqF]
      exact hq _ H S _ R (Same.refl S) (.bl _) h
  | _ => exact .inl (opd_notIn RK g S H σ ρ x _ v u k Qh R rx ry h hq)
def rDIx : R2 := fun x y H Q => ∃ a v, x = .ref a ∧ DGet H a y (some v) ∧ Q v H
theorem ix_dict (hu : X.A.units + 1 < cLine) : IxR X rDIx := by
  intro value slice pins s σ H x y v u Q I rx ry ⟨a, z, e, g, q⟩ hs
  subst e
  obtain rfl : v = Value.ref a := rx
  exact tail_any (dict_typeIs I g) PySem.F.slot_dict_getitem.lookup (d_getItem hu I g ry fun w' s3 I3 rw' => ⟨z, H, I3, rw', q⟩) hs
def rIxAll (K : PySem.W.Frag) : R2 := fun x y H Q => rIx K x y H Q ∨ rDIx x y H Q
theorem ix_all (hu : X.A.units + 1 < cLine) : IxR X (rIxAll X.K) := ix_seq.or (ix_dict hu)
theorem opd_ixK : OpD X.K (rIxAll X.K) fIxK := by
  intro RK g S H σ ρ x y v u k Qh R rx ry h hq
  cases x with
  | dct ks ds =>
    obtain ⟨q, z, hk, hv, h⟩ := h
    cases rx with
    | dct h1 h2 h3 =>
      rcases (KReps.of2 h2 h3).val (k := q) with ⟨a, b⟩ | ⟨w, d, a, b, r⟩
      · rw [b] at hv; cases hv
      · rw [b] at hv; cases hv
        refine .inr ⟨_, w, rfl, ?_, hq _ H S _ R (Same.refl S) r h⟩
        rw [← a]
        exact dget_of (R.sub _ _ h1) ry hk
  | _ => exact .inl (opd_ix RK g S H σ ρ _ y v u k Qh R rx ry h hq)
end

/-! ### a fresh dict -/
abbrev DK := EK → Rho → (KD → Rho → Prop) → Prop
def liftK (K : PySem.W.Frag) (RK : Res → Prop) (W : WX) (d : DK) : TE := fun σ H Qh => ∃ g S ρ Q E, ER K RK g S H σ ρ ∧ d E ρ Q ∧
  (∀ p kvs H' S' ρ' kds, ER K RK g S' H' σ ρ' → Same S S' → H' p = some (.dK kvs) → S' p = none → g.He p = none → (∀ i, ownAt ρ' i ≠ some p) → KReps K S' kvs kds → Q kds ρ' → Qh (.ref p) H') ∧ ExC K RK W g S E
variable (X : Cx) (RK : Res → Prop) (W : WX) in
abbrev DFk (e : Expr) (d : DK) : Prop := PE X e (liftK X.K RK W d)
@[simp] def dOfK (d : DK) : DT := fun E ρ Q => d E ρ fun kds ρ1 => Q (.dct (kds.map (·.1)) (kds.map (·.2))) ρ1
/-- x = a fresh dict, which is changed later on -/
@[simp] def dOwnK (i : Nat) (d : DK) : DS := fun E D ρ => d E ρ fun kds ρ1 => ∀ p, D.nx (ρ1.set i (.ownK p kds))
section
variable {X : Cx} {RK : Res → Prop} {W : WX} {pos : Pos} {e : Expr} {d : DK}
theorem de_ofK (h : DFk X RK W e d) : DE X RK W e (dOfK d) := pe_weak h (by
  rintro σ H Qh ⟨g, S, ρ, Q, E, R, h, hq, hx⟩
  refine ⟨g, S, ρ, _, E, R, h, fun p kvs H1 S1 ρ1 kds R1 e1 h1 h2 h3 h4 r1 q1 => ?_, hx⟩
  obtain ⟨R2, e2⟩ := R1.see h1 h2 h3 h4
  exact hq _ H1 _ ρ1 _ R2 (e1.trans e2) (.dct upd_same r1.keys (r1.vals.up e2)) q1)
theorem ER.ownK' {K : PySem.W.Frag} {RK : Res → Prop} {g : G} {S H : Hp} {σ : L2.St} {ρ : Rho} (R : ER K RK g S H σ ρ) {i : Nat} {p : Addr} {kvs : List (Key × V)} {kds : KD} (h1 : H p = some (.dK kvs)) (h2 : S p = none) (h3 : g.He p = none) (h4 : ∀ i, ownAt ρ i ≠ some p) (r : KReps K S kvs kds) :
    ER K RK g S H (σ.set i (some (.ref p))) (ρ.set i (.ownK p kds)) := by
  by_cases hi : i < σ.length
  · exact R.setOwn (p := p) hi rfl h2 h3 (fun j _ => h4 j) R.sub (fun b hb => .inl rfl) (by simp) (fun j hj => List.getElem?_set_ne (Ne.symm hj)) ⟨List.getElem?_set_self hi, h2, h3, kvs, h1, r.keys, r.vals⟩
  · rw [set_at hi, List.set_eq_of_length_le (by rw [R.len]; omega)]
    exact R
theorem st_ownK {x : Str} {p' : Pos} (i : Nat) (hN : X.N.Nodup) (he : DFk X RK W e d) (hi : X.N[i]? = some x := by rfl) (hx : Loc X.env.scope x := by first | exact Or.inl rfl | exact Or.inr rfl)
    (hs : swapsWith e (some (.Name x p')) pos.line X.env = pure false := by rfl) (hf : X.fn x = true ∨ X.env.scope.names.lookup x = some .local := by first | exact .inl rfl | exact .inr rfl) :
    DSt X RK W (.Assign [.Name x p'] e pos) (dOwnK i d) := ps_weak (ps_set hN hi hx he hs hf) (by
  rintro D σ H ⟨g, S, ρ, Kd, E, R, h, k1, k2, k3, k4, hx⟩
  exact ⟨g, S, ρ, _, E, R, h, fun p xs H1 S1 ρ1 ds R1 e1 h1 h2 h3 h4 r1 q1 => k1 _ H1 S1 _ (R1.ownK' h1 h2 h3 h4 r1) e1 (q1 p), hx⟩)
/-- {} -/
@[simp] def dK0 : DK := fun _ ρ Q => Q [] ρ
theorem dk_new : DFk X RK W (.Dict [] [] pos) dK0 := pe_weak pe_dnewK (by
  rintro σ H Qh ⟨g, S, ρ, Q, E, R, h, hq, hx⟩
  intro p hp
  obtain ⟨f1, f2, f3, f4⟩ := R.fresh hp
  exact hq p [] _ S ρ [] (R.alloc0 hp) (Same.refl S) upd_same f2 f1 f4 .nil h)
end

/-! ### a comprehension of a dict -/
def dcGo (b : DG) (t : DB) (ek e : DT) (vs : List Nat) (k : KD → Rho → Prop) : List D → KD → Rho → Prop
  | [], acc, ρ => k acc ρ
  | x :: r, acc, ρ => b x (wipeR ρ vs) fun ρ1 => t EX0 ρ1 fun c ρ2 => match c with
    | true => ek EX0 ρ2 fun y ρ3 => e EX0 ρ3 fun z ρ4 => ∃ q, y.key? = some q ∧ dcGo b t ek e vs k r (putD acc q z) ρ4
    | false => dcGo b t ek e vs k r acc ρ2
@[simp] def dDc (di : DI) (b : DG) (t : DB) (ek e : DT) (vs : List Nat) : DK := fun E ρ Q => di E ρ fun its ρ1 => its.length ≤ sizeLine ∧ dcGo b t ek e vs (fun ds ρ2 => Q ds (backR ρ1 ρ2 vs)) its [] ρ1
theorem putD_len (c : KD) (k : Key) (x : D) : (putD c k x).length ≤ c.length + 1 := by
  unfold putD
  split
  · rw [List.length_map]; omega
  · rw [List.length_append, List.length_singleton]; omega
section
variable {X : Cx} {RK : Res → Prop} {W : WX} {pos : Pos} {kx vx tg iter : Expr} {di : DI} {b : DG} {t : DB} {ek e : DT} {vs : List Nat}
theorem lift_dc : ∀ σ H Q, liftK X.K RK W (dDc di b t ek e vs) σ H Q → tDc (liftI X.K RK W di) (liftGv X.K RK vs b) (liftB X.K RK W0 t) (liftE X.K RK W0 ek) (liftE X.K RK W0 e) vs σ H Q := by
  rintro σ H Qh ⟨g, S, ρ, Q, E, R, h, hq, hx⟩
  refine ⟨g, S, ρ, _, E, R, h, fun J its H1 S1 ρ1 R1 e1 G1 ⟨hsz, q1⟩ => ?_, hx⟩
  intro p hp
  obtain ⟨f1, f2, f3, f4⟩ := R1.fresh hp
  have f0 : g.S0 p = none := R1.s0.free f2
  have Rw := R1.wipe vs
  have fw := (Rw.fresh hp).2.2.2
  refine ⟨fun i m H' => m = its.length - i ∧ i ≤ its.length ∧ ∃ S' ρ' xs ds, ER X.K RK g S' H' (L2.wipe σ vs) (wipeR ρ' vs) ∧ Same S1 S' ∧ H' p = some (.dK xs) ∧ S' p = none ∧ (∀ j, ownAt (wipeR ρ' vs) j ≠ some p) ∧ KReps X.K S' xs ds ∧ ds.length ≤ i ∧
    dcGo b t ek e vs (fun ds ρ2 => Q ds (backR ρ1 ρ2 vs)) (its.drop i) ds ρ', ⟨its.length, rfl, Nat.zero_le _, S1, ρ1, [], [], Rw.alloc0 hp, Same.refl S1, upd_same, f2, fw, .nil, Nat.le_refl _, q1⟩, ?_⟩
  rintro i m H' ⟨rfl, hil, S', ρ', xs, ds, R', e', hH, hS, hn, rp, hds, q'⟩
  by_cases hlt : i < its.length
  · refine .inr ⟨(G1 i S' H' e' R'.sub).2.1 hlt, fun H2 => ∃ S' ρ' xs ds, ER X.K RK g S' H2 (L2.wipe σ vs) (wipeR ρ' vs) ∧ Same S1 S' ∧ H2 p = some (.dK xs) ∧ S' p = none ∧ (∀ j, ownAt (wipeR ρ' vs) j ≠ some p) ∧ KReps X.K S' xs ds ∧ ds.length ≤ i + 1 ∧
      dcGo b t ek e vs (fun ds ρ2 => Q ds (backR ρ1 ρ2 vs)) (its.drop (i + 1)) ds ρ', fun H2 z => ⟨its.length - (i + 1), by omega, rfl, hlt, z⟩, fun x H2 y => ?_⟩
    have Rp := R'.pin hH hS f1 hn
    obtain ⟨S2, d, hd, R2, e2, r2⟩ := Rp.yld e' G1 hlt y
    have hdrop : its.drop i = d :: its.drop (i + 1) := by
      rw [List.drop_eq_getElem_cons hlt]
      rw [List.getElem?_eq_getElem hlt] at hd
      cases hd; rfl
    rw [hdrop] at q'
    refine ⟨g.pin p (.dK xs), S2, wipeR ρ' vs, d, _, R2, r2, q', fun σ3 ρ3 R3 o3 q3 => ?_⟩
    have hw : L2.wipe σ3 vs = L2.wipe σ vs := (wipe_eq o3).trans wipe_wipe
    refine ⟨hw, g.pin p (.dK xs), S2, ρ3, _, EX0, R3, q3, fun c H4 S4 ρ4 R4 e4 q4 => ?_, exc0⟩
    cases c with
    | true =>
      refine iteT ?_
      refine ⟨g.pin p (.dK xs), S4, ρ4, _, EX0, R4, q4, fun u H5 S5 ρ5 y5 R5 e5 r5 q5 => ?_, exc0⟩
      refine ⟨g.pin p (.dK xs), S5, ρ5, _, EX0, R5, q5, fun v H6 S6 ρ6 z6 R6 e6 r6 q6 => ?_, exc0⟩
      obtain ⟨q, hk, q6⟩ := q6
      obtain ⟨R7, h7, s7, n7⟩ := R6.unpin f1 f0 R1.heok
      have n8 : ∀ j, ownAt (wipeR ρ6 vs) j ≠ some p := fun j z => n7 j (own_wipe z)
      have R8 := R7.wipe vs
      rw [hw] at R8
      have e26 : Same S' S6 := ((e2.trans e4).trans e5).trans e6
      exact ⟨xs, q, r5.key hk, h7, by rw [rp.length]; omega, S6, ρ6, putK xs q v, putD ds q z6, R8.poke s7 f1 n8, e'.trans e26, upd_same, s7, n8, (rp.up e26).put r6, by have := putD_len ds q z6; omega, q6⟩
    | false =>
      refine iteF ?_
      obtain ⟨R6, h6, s6, n6⟩ := R4.unpin f1 f0 R1.heok
      have n7 : ∀ j, ownAt (wipeR ρ4 vs) j ≠ some p := fun j z => n6 j (own_wipe z)
      have R7 := R6.wipe vs
      rw [hw] at R7
      have e25 : Same S' S4 := e2.trans e4
      exact ⟨S4, ρ4, xs, ds, R7, e'.trans e25, h6, s6, n7, rp.up e25, by omega, q4⟩
  · have hi' : i = its.length := by omega
    subst hi'
    rw [List.drop_length] at q'
    refine .inl ⟨(G1 _ S' H' e' R'.sub).1 (Nat.le_refl _), ?_⟩
    have Rb := R1.back R' e'
    rw [back_wipe] at Rb
    refine hq p xs H' S' _ ds Rb (e1.trans e') hH hS f1 (fun j z => ?_) rp q'
    have z2 := z
    rw [← back_wipe] at z2
    refine hn j ?_
    unfold ownAt at z2 ⊢
    by_cases hj : j ∈ vs
    · cases w : (backR ρ1 (wipeR ρ' vs) vs)[j]? with
      | none => rw [w] at z2; cases z2
      | some c =>
        rw [w] at z2
        have zz := back_in hj w
        subst zz
        have h' : (backC ρ1[j]?).at? = some p := z2
        unfold backC at h'
        split at h' <;> cases h'
    · rw [back_at hj] at z2; exact z2
variable {ifs : List Expr} {scope : Scope} {own : List (Str × Nat)}
theorem dk_dc (hc : X.calm = true) (hN : X.N.Nodup) (hi : DIt X RK W tg iter di) (ok : BlkOk X.N X.env.scope scope own) (B : Blk X RK scope (own.map (·.2)) tg ifs vx b t e) (Bk : Blk X RK scope (own.map (·.2)) tg ifs kx b t ek) (hs : ∀ x, foldedSetIterable iter X.env x = pure x := by intro _; rfl) :
    DFk X RK W (.DictComp kx vx [⟨tg, iter, ifs, 0⟩] scope pos) (dDc di b t ek e (own.map (·.2))) := pe_weak (pe_dc hc hN hi ok B.g B.t Bk.e B.e hs) lift_dc
end
end DL
/-! DL14: names of own dicts, tuple assignments with own things, stores as targets -/
namespace DL
open PySem PySem.Spec PyProof.Rows L2

section
variable {X : Cx} {RK : Res → Prop} {W : WX} {pos p1 : Pos} {a b e : Expr} {da db d : DT} {x : Str}
theorem de_ixG (hu : X.A.units + 65 < cLine) (ha : DE X RK W a da) (hb : DE X RK W b db) (hs : PlainIx b := by intro _ _; rfl) : DE X RK W (.Subscript a b pos) (dBin fIxK da db) := pe_weak (pe_ix (ix_all (by omega)) ha hb hs) (lift_bin opd_ixK)
/-- x[e], x an own list, an own dict or data -/
def dIxK (i : Nat) (db : DT) : DT := fun E ρ Q => match ρ[i]? with
  | some (.own _ _) => db E ρ fun y ρ1 => match ρ1[i]?, y with
    | some (.own _ ds), .int k => ∃ z, atI ds k = some z ∧ Q z ρ1
    | _, _ => False
  | some (.ownK _ _) => db E ρ fun y ρ1 => match ρ1[i]? with
    | some (.ownK _ kds) => ∃ q z, y.key? = some q ∧ valD kds q = some z ∧ Q z ρ1
    | _ => False
  | some (.dat d) => db E ρ fun y ρ1 => fIxK d y fun z => Q z ρ1
  | _ => False
theorem de_ixK (i : Nat) (hu : X.A.units + 65 < cLine) (hb : DE X RK W b db) (hN : X.N[i]? = some x := by rfl) (hv : Vis X.env.scope x := by first | exact Or.inl rfl | exact Or.inr (Or.inl rfl) | exact Or.inr (Or.inr rfl)) (hd : (x == ("__debug__" : Str)) = false := by decide)
    (hcd : (x == ("__classdict__" : Str)) = false := by decide) (hs : PlainIx b := by intro _ _; rfl) : DE X RK W (.Subscript (.Name x p1) b pos) (dIxK i db) := pe_weak (pe_ix (ix_all (by omega)) (pe_var hN hv hd hcd) hb hs) (by
  rintro σ H Qh ⟨g, S, ρ, Q, E, R, h, hq, hx⟩
  unfold dIxK at h
  cases w : ρ[i]? with
  | none => simp only [w] at h
  | some c =>
    cases c with
    | own p ds =>
      simp only [w] at h
      obtain ⟨z1, z2, z3, xs, z4, z5⟩ := R.cell i _ w
      refine ⟨_, z1, g, S, ρ, _, E, R, h, fun v H1 S1 ρ1 y R1 e1 r1 q1 => ?_, hx⟩
      cases w1 : ρ1[i]? with
      | none => simp only [w1] at q1
      | some c1 =>
        cases c1 with
        | own p' ds' =>
          cases y with
          | int k =>
            simp only [w1] at q1
            cases r1
            obtain ⟨y1, y2, y3, xs', y4, y5⟩ := R1.cell i _ w1
            have ep : p' = p := by rw [z1] at y1; cases y1; rfl
            subst ep
            obtain ⟨z, q2, q3⟩ := q1
            obtain ⟨u, q4, q5⟩ := y5.at' q2
            exact .inl (.inl ⟨_, _, k, u, rfl, rfl, SqL.of y4, q4, hq _ H1 S1 ρ1 z R1 e1 q5 q3⟩)
          | _ => simp only [w1] at q1
        | _ => simp only [w1] at q1
    | ownK p ds =>
      simp only [w] at h
      obtain ⟨z1, z2, z3, xs, z4, z5⟩ := R.cell i _ w
      refine ⟨_, z1, g, S, ρ, _, E, R, h, fun v H1 S1 ρ1 y R1 e1 r1 q1 => ?_, hx⟩
      cases w1 : ρ1[i]? with
      | none => simp only [w1] at q1
      | some c1 =>
        cases c1 with
        | ownK p' ds' =>
          simp only [w1] at q1
          obtain ⟨y1, y2, y3, xs', y4, y5, y6⟩ := R1.cell i _ w1
          have ep : p' = p := by rw [z1] at y1; cases y1; rfl
          subst ep
          obtain ⟨q, z, k1, k2, k3⟩ := q1
          rcases (KReps.of y5 y6).val (k := q) with ⟨a, b⟩ | ⟨w, d, a, b, r⟩
          · rw [b] at k2; cases k2
          · rw [b] at k2; cases k2
            exact .inr ⟨_, w, rfl, by rw [← a]; exact dget_of y4 r1 k1, hq _ H1 S1 ρ1 _ R1 e1 r k3⟩
        | _ => simp only [w1] at q1
    | dat d =>
      simp only [w] at h
      obtain ⟨v, z1, z2⟩ := R.cell i _ w
      refine ⟨_, z1, g, S, ρ, _, E, R, h, fun u H1 S1 ρ1 y R1 e1 r1 q1 => ?_, hx⟩
      exact opd_ixK RK g S1 H1 σ ρ1 d y v u _ Qh R1 (z2.up e1) r1 q1 fun w H3 S3 z R3 e3 r3 k3 => hq w H3 S3 ρ1 z R3 (e1.trans e3) r3 k3
    | _ => simp only [w] at h)
/-- e in x, x an own list of flat things, an own dict, or data -/
def dInK (neg : Bool) (f : D → D → (D → Prop) → Prop) (da : DT) (i : Nat) : DT := fun E ρ Q => da E ρ fun y ρ1 => match ρ1[i]? with
  | some (.own _ ds) => y.flat = true ∧ ds.all D.flat = true ∧ Q (.bl (D.mem y ds != neg)) ρ1
  | some (.ownK _ kds) => ∃ q, y.key? = some q ∧ Q (.bl ((valD kds q).isSome != neg)) ρ1
  | some (.dat d) => f y d fun z => Q z ρ1
  | _ => False
theorem lift_inK {neg : Bool} {r : R2} {f : D → D → (D → Prop) → Prop} (hf : OpD X.K r f) (hr : ∀ v u H Q, rIn X.K neg v u H Q → r v u H Q) (hr2 : ∀ v u H Q, rDIn (!neg) v u H Q → r v u H Q) (i : Nat) :
    ∀ σ H Q, liftE X.K RK W (dInK neg f da i) σ H Q → tOp r (liftE X.K RK W da) (tVar i) σ H Q := by
  rintro σ H Qh ⟨g, S, ρ, Q, E, R, h, hq, hx⟩
  refine ⟨g, S, ρ, _, E, R, h, fun v H1 S1 ρ1 y R1 e1 r1 q1 => ?_, hx⟩
  cases w : ρ1[i]? with
  | none => simp only [w] at q1
  | some c =>
    cases c with
    | own p ds =>
      simp only [w] at q1
      obtain ⟨z1, z2, z3, xs, z4, z5⟩ := R1.cell i _ w
      refine ⟨_, z1, hr _ _ _ _ ?_⟩
      obtain ⟨q1, q2, q3⟩ := q1
      obtain ⟨a1, a2⟩ := inV_mem r1 q1 z5 q2
      refine ⟨p, xs, rfl, .inl (SqL.of z4), flatV_of r1 q1, a2, ?_⟩
      rw [a1]
      have e : (if neg then !D.mem y ds else D.mem y ds) = (D.mem y ds != neg) := by cases neg <;> cases D.mem y ds <;> rfl
      refine hq _ H1 S1 ρ1 _ R1 e1 (.bl _) ?_
      rw [e]; exact q3
    | ownK p ds =>
      simp only [w] at q1
      obtain ⟨z1, z2, z3, xs, z4, z5, z6⟩ := R1.cell i _ w
      refine ⟨_, z1, hr2 _ _ _ _ ?_⟩
      obtain ⟨q, q1, q2⟩ := q1
      refine ⟨p, _, rfl, dget_of z4 r1 q1, ?_⟩
      rw [isSome_val (KReps.of z5 z6) q]
      have e : ∀ o : Bool, (o == !neg) = (o != neg) := by intro o; cases neg <;> cases o <;> rfl
      rw [e]
      exact hq _ H1 S1 ρ1 _ R1 e1 (.bl _) q2
    | dat d =>
      simp only [w] at q1
      obtain ⟨u, z1, z2⟩ := R1.cell i _ w
      exact ⟨_, z1, hf RK g S1 H1 σ ρ1 y d v u _ Qh R1 r1 z2 q1 fun w H3 S3 z R3 e3 r3 k3 => hq w H3 S3 ρ1 z R3 (e1.trans e3) r3 k3⟩
    | _ => simp only [w] at q1
theorem de_inK (i : Nat) (hu : X.A.units + 65 < cLine) (ha : DE X RK W a da) (hN : X.N[i]? = some x := by rfl) (hv : Vis X.env.scope x := by first | exact Or.inl rfl | exact Or.inr (Or.inl rfl) | exact Or.inr (Or.inr rfl)) (hd : (x == ("__debug__" : Str)) = false := by decide)
    (hcd : (x == ("__classdict__" : Str)) = false := by decide) (hm : behindInMarks .In (.Name x p1) = false := by rfl) : DE X RK W (.Compare a [.In] [.Name x p1] pos) (dInK false fInK da i) :=
  pe_weak (pe_cmpR (op_inK hu) ha (pe_var hN hv hd hcd) hm) (lift_inK opd_inK (fun _ _ _ _ h => .inl (.inl h)) (fun _ _ _ _ h => .inr h) i)
theorem de_notInK (i : Nat) (hu : X.A.units + 65 < cLine) (ha : DE X RK W a da) (hN : X.N[i]? = some x := by rfl) (hv : Vis X.env.scope x := by first | exact Or.inl rfl | exact Or.inr (Or.inl rfl) | exact Or.inr (Or.inr rfl)) (hd : (x == ("__debug__" : Str)) = false := by decide)
    (hcd : (x == ("__classdict__" : Str)) = false := by decide) (hm : behindInMarks .NotIn (.Name x p1) = false := by rfl) : DE X RK W (.Compare a [.NotIn] [.Name x p1] pos) (dInK true fNotInK da i) :=
  pe_weak (pe_cmpR (op_notInK hu) ha (pe_var hN hv hd hcd) hm) (lift_inK opd_notInK (fun _ _ _ _ h => .inl (.inl h)) (fun _ _ _ _ h => .inr h) i)
theorem dt_inK (i : Nat) (hu : X.A.units + 65 < cLine) (ha : DE X RK W a da) (hN : X.N[i]? = some x := by rfl) (hv : Vis X.env.scope x := by first | exact Or.inl rfl | exact Or.inr (Or.inl rfl) | exact Or.inr (Or.inr rfl)) (hd : (x == ("__debug__" : Str)) = false := by decide)
    (hcd : (x == ("__classdict__" : Str)) = false := by decide) (hm : behindInMarks .In (.Name x p1) = false := by rfl) : DTs X RK W (.Compare a [.In] [.Name x p1] pos) (dTst (dInK false fInK da i)) :=
  pt_weak (pt_cmpR (op_inK hu) ha (pe_var hN hv hd hcd) hm) fun σ H Q h => lift_inK opd_inK (fun _ _ _ _ h => .inl (.inl h)) (fun _ _ _ _ h => .inr h) i σ H _ (lift_tst σ H Q h)
theorem dt_notInK (i : Nat) (hu : X.A.units + 65 < cLine) (ha : DE X RK W a da) (hN : X.N[i]? = some x := by rfl) (hv : Vis X.env.scope x := by first | exact Or.inl rfl | exact Or.inr (Or.inl rfl) | exact Or.inr (Or.inr rfl)) (hd : (x == ("__debug__" : Str)) = false := by decide)
    (hcd : (x == ("__classdict__" : Str)) = false := by decide) (hm : behindInMarks .NotIn (.Name x p1) = false := by rfl) : DTs X RK W (.Compare a [.NotIn] [.Name x p1] pos) (dTst (dInK true fNotInK da i)) :=
  pt_weak (pt_cmpR (op_notInK hu) ha (pe_var hN hv hd hcd) hm) fun σ H Q h => lift_inK opd_notInK (fun _ _ _ _ h => .inl (.inl h)) (fun _ _ _ _ h => .inr h) i σ H _ (lift_tst σ H Q h)
/-- -e -/
def dNeg (d : DT) : DT := fun E ρ Q => d E ρ fun x ρ1 => match x with
  | .int i => Q (.int (-i)) ρ1
  | _ => False
theorem de_neg (he : DE X RK W e d) : DE X RK W (.UnaryOp .USub e pos) (dNeg d) := pe_weak (pe_un un_neg he) (by
  rintro σ H Qh ⟨g, S, ρ, Q, E, R, h, hq, hx⟩
  refine ⟨g, S, ρ, _, E, R, h, fun v H1 S1 ρ1 x R1 e1 r1 q1 => ?_, hx⟩
  cases x with
  | int i => cases r1; exact ⟨i, rfl, hq _ H1 S1 ρ1 _ R1 e1 (.int _) q1⟩
  | _ => exact q1.elim)
/-- a list so many times, fresh -/
@[simp] def dfRep (da db : DT) : DF := fun E ρ Q => da E ρ fun x ρ1 => db E ρ1 fun y ρ2 => match x, y with
  | .lst xs, .int j => -(2 ^ 63) ≤ j ∧ j < 2 ^ 63 ∧ xs.length * j.toNat ≤ sizeLine ∧ Q (List.replicate j.toNat xs).flatten ρ2
  | _, _ => False
theorem df_rep (ha : DE X RK W a da) (hb : DE X RK W b db) : DFr X RK W (.BinOp a .Mult b pos) (dfRep da db) := pe_weak (pe_op op_rep ha hb) (by
  rintro σ H Qh ⟨g, S, ρ, Q, E, R, h, hq, hx⟩
  refine ⟨g, S, ρ, _, E, R, h, fun v H1 S1 ρ1 x R1 e1 r1 q1 => ⟨g, S1, ρ1, _, E, R1, q1, fun u H2 S2 ρ2 y R2 e2 r2 q2 => ?_, hx.up e1⟩, hx⟩
  have r1 := r1.up e2
  cases x with
  | lst xs =>
    cases y with
    | int j =>
      cases r2
      cases r1 with
      | lst a1 a2 =>
        refine ⟨_, j, _, rfl, rfl, R2.sub _ _ a1, q2.1, q2.2.1, by rw [a2.length]; exact q2.2.2.1, fun p hp => ?_⟩
        obtain ⟨f1, f2, f3, f4⟩ := R2.fresh hp
        exact hq p _ _ S2 ρ2 _ (R2.alloc0 hp) (e1.trans e2) upd_same f2 f1 f4 (a2.repl _) q2.2.2.2
    | _ => exact q2.elim
  | _ => cases y <;> exact q2.elim)
end

/-! ### things in a row, some of them fresh -/
inductive Itm where
  | d (x : D) | f (ds : List D) | k (kds : KD)
abbrev DAF := EK → Rho → (List Itm → Rho → Prop) → Prop
def Unk (g : G) (S : Hp) (ρ : Rho) (p : Addr) : Prop := S p = none ∧ g.He p = none ∧ ∀ i, ownAt ρ i ≠ some p
inductive Itms (K : PySem.W.Frag) (g : G) (S H : Hp) (ρ : Rho) : List Addr → List V → List Itm → Prop where
  | nil : Itms K g S H ρ [] [] []
  | d {fs : List Addr} {v : V} {vs : List V} {x : D} {its : List Itm} : Rep K S v x → Itms K g S H ρ fs vs its → Itms K g S H ρ fs (v :: vs) (.d x :: its)
  | f {fs : List Addr} {p : Addr} {xs vs : List V} {ds : List D} {its : List Itm} : Unk g S ρ p → p ∉ fs → H p = some (.lst xs) → Reps K S xs ds → Itms K g S H ρ fs vs its → Itms K g S H ρ (p :: fs) (.ref p :: vs) (.f ds :: its)
  | k {fs : List Addr} {p : Addr} {xs : List (Key × V)} {vs : List V} {ds : KD} {its : List Itm} : Unk g S ρ p → p ∉ fs → H p = some (.dK xs) → KReps K S xs ds → Itms K g S H ρ fs vs its → Itms K g S H ρ (p :: fs) (.ref p :: vs) (.k ds :: its)
def liftAF (K : PySem.W.Frag) (RK : Res → Prop) (W : WX) (d : DAF) : TA := fun σ H Qh => ∃ g S ρ Q E, ER K RK g S H σ ρ ∧ d E ρ Q ∧ (∀ vs H' S' ρ' fs its, ER K RK g S' H' σ ρ' → Same S S' → Itms K g S' H' ρ' fs vs its → Q its ρ' → Qh vs H') ∧ ExC K RK W g S E
variable (X : Cx) (RK : Res → Prop) (W : WX) in
abbrev DAFs (es : List Expr) (d : DAF) : Prop := PA X es (liftAF X.K RK W d)
theorem Itms.unpin {K : PySem.W.Frag} {g : G} {S H : Hp} {ρ : Rho} {p : Addr} {o : HO} : ∀ {fs : List Addr} {vs : List V} {its : List Itm}, Itms K (g.pin p o) S H ρ fs vs its → Itms K g S H ρ fs vs its ∧ p ∉ fs := by
  have key : ∀ {q : Addr}, Unk (g.pin p o) S ρ q → Unk g S ρ q ∧ p ≠ q := fun {q} ⟨h1, h2, h3⟩ => by
    have hne : q ≠ p := fun z => by
      subst z
      rw [show (g.pin q o).He q = some o from upd_same] at h2; cases h2
    rw [show (g.pin p o).He q = g.He q from upd_ne hne] at h2
    exact ⟨⟨h1, h2, h3⟩, Ne.symm hne⟩
  intro fs vs its h
  induction h with
  | nil => exact ⟨.nil, by intro z; cases z⟩
  | d r _ ih => exact ⟨.d r ih.1, ih.2⟩
  | f u n e r _ ih =>
    obtain ⟨u1, u2⟩ := key u
    exact ⟨.f u1 n e r ih.1, fun z => (List.mem_cons.mp z).elim u2 ih.2⟩
  | k u n e r _ ih =>
    obtain ⟨u1, u2⟩ := key u
    exact ⟨.k u1 n e r ih.1, fun z => (List.mem_cons.mp z).elim u2 ih.2⟩
@[simp] def dafNil : DAF := fun _ ρ Q => Q [] ρ
@[simp] def dafD (d : DT) (r : DAF) : DAF := fun E ρ Q => d E ρ fun x ρ1 => r E ρ1 fun xs ρ2 => Q (.d x :: xs) ρ2
@[simp] def dafF (d : DF) (r : DAF) : DAF := fun E ρ Q => d E ρ fun x ρ1 => r E ρ1 fun xs ρ2 => Q (.f x :: xs) ρ2
@[simp] def dafK (d : DK) (r : DAF) : DAF := fun E ρ Q => d E ρ fun x ρ1 => r E ρ1 fun xs ρ2 => Q (.k x :: xs) ρ2
section
variable {X : Cx} {RK : Res → Prop} {W : WX} {pos : Pos} {e : Expr} {es : List Expr} {d : DT} {df : DF} {dk : DK} {r : DAF}
theorem ExC.pin {K : PySem.W.Frag} {g : G} {S : Hp} {E : EK} {p : Addr} {o : HO} (h : ExC K RK W g S E) (he : g.He p = none) (hs : g.S0 p = none) (hg : g.r.ok g.S0 g.He) : ExC K RK W (g.pin p o) S E :=
  fun cls dd σ' H' S' ρ' x R q r z => h cls dd σ' H' S' ρ' x (R.unpin he hs hg).1 q r z
theorem daf_nil : DAFs X RK W [] dafNil := pa_weak pa_nil (by
  rintro σ H Qh ⟨g, S, ρ, Q, E, R, h, hq, hx⟩
  exact hq [] H S ρ [] [] R (Same.refl S) .nil h)
theorem daf_d (he : DE X RK W e d) (hr : DAFs X RK W es r) (hs : starEach (e :: es) X.env = (false, eval e X.env) :: starEach es X.env := by rfl) : DAFs X RK W (e :: es) (dafD d r) := pa_weak (pa_cons he hr hs) (by
  rintro σ H Qh ⟨g, S, ρ, Q, E, R, h, hq, hx⟩
  exact ⟨g, S, ρ, _, E, R, h, fun v H1 S1 ρ1 x R1 e1 r1 q1 => ⟨g, S1, ρ1, _, E, R1, q1, fun vs H2 S2 ρ2 fs xs R2 e2 r2 q2 => hq (v :: vs) H2 S2 ρ2 fs _ R2 (e1.trans e2) (.d (r1.up e2) r2) q2, hx.up e1⟩, hx⟩)
theorem daf_f (he : DFr X RK W e df) (hr : DAFs X RK W es r) (hs : starEach (e :: es) X.env = (false, eval e X.env) :: starEach es X.env := by rfl) : DAFs X RK W (e :: es) (dafF df r) := pa_weak (pa_cons he hr hs) (by
  rintro σ H Qh ⟨g, S, ρ, Q, E, R, h, hq, hx⟩
  refine ⟨g, S, ρ, _, E, R, h, fun p xs H1 S1 ρ1 ds R1 e1 h1 h2 h3 h4 r1 q1 => ?_, hx⟩
  have f0 : g.S0 p = none := R1.s0.free h2
  refine ⟨g.pin p (.lst xs), S1, ρ1, _, E, R1.pin h1 h2 h3 h4, q1, fun vs H2 S2 ρ2 fs its R2 e2 r2 q2 => ?_, (hx.up e1).pin h3 f0 R1.heok⟩
  obtain ⟨R3, k1, k2, k3⟩ := R2.unpin h3 f0 R1.heok
  obtain ⟨r3, n3⟩ := r2.unpin
  exact hq (.ref p :: vs) H2 S2 ρ2 (p :: fs) _ R3 (e1.trans e2) (.f ⟨k2, h3, k3⟩ n3 k1 (r1.up e2) r3) q2)
theorem daf_k (he : DFk X RK W e dk) (hr : DAFs X RK W es r) (hs : starEach (e :: es) X.env = (false, eval e X.env) :: starEach es X.env := by rfl) : DAFs X RK W (e :: es) (dafK dk r) := pa_weak (pa_cons he hr hs) (by
  rintro σ H Qh ⟨g, S, ρ, Q, E, R, h, hq, hx⟩
  refine ⟨g, S, ρ, _, E, R, h, fun p xs H1 S1 ρ1 ds R1 e1 h1 h2 h3 h4 r1 q1 => ?_, hx⟩
  have f0 : g.S0 p = none := R1.s0.free h2
  refine ⟨g.pin p (.dK xs), S1, ρ1, _, E, R1.pin h1 h2 h3 h4, q1, fun vs H2 S2 ρ2 fs its R2 e2 r2 q2 => ?_, (hx.up e1).pin h3 f0 R1.heok⟩
  obtain ⟨R3, k1, k2, k3⟩ := R2.unpin h3 f0 R1.heok
  obtain ⟨r3, n3⟩ := r2.unpin
  exact hq (.ref p :: vs) H2 S2 ρ2 (p :: fs) _ R3 (e1.trans e2) (.k ⟨k2, h3, k3⟩ n3 k1 (r1.up e2) r3) q2)
end

/-! ### x, y, .. = a, b, .. -/
def tNames : List Nat → TGs
  | [] => fun vs σ H Q => vs = [] ∧ Q σ H
  | i :: is => fun vs σ H Q => ∃ v r, vs = v :: r ∧ tNames is r (σ.set i (some v)) H Q
@[simp] def parGo : List Nat → List Itm → Rho → (Rho → Prop) → Prop
  | [], [], ρ, k => k ρ
  | i :: is, .d x :: its, ρ, k => parGo is its (ρ.set i (.dat x)) k
  | i :: is, .f ds :: its, ρ, k => ∀ p, parGo is its (ρ.set i (.own p ds)) k
  | i :: is, .k ds :: its, ρ, k => ∀ p, parGo is its (ρ.set i (.ownK p ds)) k
  | _, _, _, _ => False
@[simp] def dPar (is : List Nat) (r : DAF) : DS := fun E D ρ => r E ρ fun its ρ1 => parGo is its ρ1 D.nx
theorem ownAt_own {ρ : Rho} {i j : Nat} {c : Cell} {p q : Addr} (hc : c.at? = some p ∨ c.at? = none) (h : ownAt ρ j ≠ some q) (hne : c.at? ≠ some q) : ownAt (ρ.set i c) j ≠ some q := by
  by_cases e : j = i
  · subst e
    by_cases hl : j < ρ.length
    · rw [ownAt_set hl]; exact hne
    · rw [List.set_eq_of_length_le (by omega)]; exact h
  · rw [ownAt_set_ne e]; exact h
theorem Itms.cell {K : PySem.W.Frag} {g : G} {S H : Hp} {ρ : Rho} {i : Nat} {c : Cell} : ∀ {fs : List Addr} {vs : List V} {its : List Itm}, (∀ q ∈ fs, c.at? ≠ some q) → Itms K g S H ρ fs vs its → Itms K g S H (ρ.set i c) fs vs its := by
  intro fs vs its hf h
  have hc : ∀ {q : Addr}, Unk g S ρ q → c.at? ≠ some q → Unk g S (ρ.set i c) q := fun {q} ⟨u1, u2, u3⟩ e => ⟨u1, u2, fun j => by
    cases w : c.at? with
    | none => exact ownAt_own (p := q) (.inr w) (u3 j) e
    | some p => exact ownAt_own (.inl w) (u3 j) e⟩
  induction h with
  | nil => exact .nil
  | d r _ ih => exact .d r (ih hf)
  | f u n e r _ ih => exact .f (hc u (hf _ List.mem_cons_self)) n e r (ih fun q hq => hf q (List.mem_cons_of_mem _ hq))
  | k u n e r _ ih => exact .k (hc u (hf _ List.mem_cons_self)) n e r (ih fun q hq => hf q (List.mem_cons_of_mem _ hq))
theorem par_names {K : PySem.W.Frag} {RK : Res → Prop} {g : G} {S H : Hp} {k : Rho → Prop} {is : List Nat} {fs : List Addr} {vs : List V} {its : List Itm} {σ : L2.St} {ρ : Rho} (R : ER K RK g S H σ ρ) (t : Itms K g S H ρ fs vs its) (h : parGo is its ρ k) :
    tNames is vs σ H fun σ' H' => H' = H ∧ ∃ ρ', ER K RK g S H σ' ρ' ∧ k ρ' := by
  induction is generalizing fs vs its σ ρ with
  | nil =>
    cases its with
    | nil => cases t; exact ⟨rfl, rfl, ρ, R, h⟩
    | cons it its => cases it <;> exact h.elim
  | cons i is ih =>
    cases t with
    | nil => exact h.elim
    | d r t => exact ⟨_, _, rfl, ih (R.setD' r) (t.cell fun q _ z => by cases z) h⟩
    | @f fs p _ _ _ _ u n e r t => exact ⟨_, _, rfl, ih (R.own e u.1 u.2.1 u.2.2 r) (t.cell fun q hq z => n (by rw [show p = q from Option.some.inj z]; exact hq)) (h p)⟩
    | @k fs p _ _ _ _ u n e r t => exact ⟨_, _, rfl, ih (R.ownK' e u.1 u.2.1 u.2.2 r) (t.cell fun q hq z => n (by rw [show p = q from Option.some.inj z]; exact hq)) (h p)⟩
theorem Itms.grow {K : PySem.W.Frag} {g : G} {S H : Hp} {ρ : Rho} {T : Addr} {o : HO} (hT : H T = none) : ∀ {fs : List Addr} {vs : List V} {its : List Itm}, Itms K g S H ρ fs vs its → Itms K g S (upd H T o) ρ fs vs its := by
  intro fs vs its h
  induction h with
  | nil => exact .nil
  | d r _ ih => exact .d r ih
  | f u n e r _ ih => exact .f u n (by rw [upd_ne (ne_of_none e hT)]; exact e) r ih
  | k u n e r _ ih => exact .k u n (by rw [upd_ne (ne_of_none e hT)]; exact e) r ih
theorem Itms.len {K : PySem.W.Frag} {g : G} {S H : Hp} {ρ : Rho} {fs : List Addr} {vs : List V} {its : List Itm} (h : Itms K g S H ρ fs vs its) : vs.length = its.length := by
  induction h with
  | nil => rfl
  | d r _ ih => simp [ih]
  | f u n e r _ ih => simp [ih]
  | k u n e r _ ih => simp [ih]
theorem par_len : ∀ {is : List Nat} {its : List Itm} {ρ : Rho} {k : Rho → Prop}, parGo is its ρ k → is.length = its.length
  | [], [], _, _, _ => rfl
  | [], .d _ :: _, _, _, h => h.elim
  | [], .f _ :: _, _, _, h => h.elim
  | [], .k _ :: _, _, _, h => h.elim
  | _ :: _, [], _, _, h => h.elim
  | i :: is, .d x :: its, ρ, k, h => by
    have h : parGo is its (ρ.set i (.dat x)) k := h
    simp [par_len h]
  | i :: is, .f ds :: its, ρ, k, h => by
    have h : ∀ p, parGo is its (ρ.set i (.own p ds)) k := h
    simp [par_len (h 0)]
  | i :: is, .k ds :: its, ρ, k, h => by
    have h : ∀ p, parGo is its (ρ.set i (.ownK p ds)) k := h
    simp [par_len (h 0)]
section
variable {X : Cx} {RK : Res → Prop} {W : WX} {pos : Pos} {e : Expr} {es : List Expr} {r : DAF} {is : List Nat}
theorem st_parF2 {a b : Expr} {x y : Str} {px py pt : Pos} {kt k2 pt2} (i j : Nat) (hc : X.calm = true) (hN : X.N.Nodup) (ha : DAFs X RK W [a, b] r) (hi : X.N[i]? = some x := by rfl) (hj : X.N[j]? = some y := by rfl) (hij : i ≠ j := by decide)
    (hx : X.env.scope.names.lookup x = some .local := by rfl) (hy : X.env.scope.names.lookup y = some .local := by rfl)
    (hw : swappedStores [.Tuple [.Name x px, .Name y py] kt pt] (.Tuple [a, b] k2 pt2) X.env = pure (some [x, y]) := by rfl)
    (hs : swapsWithSole [.Tuple [.Name x px, .Name y py] kt pt] (.Tuple [a, b] k2 pt2) pos.line X.env = pure false := by rfl) :
    DSt X RK W (.Assign [.Tuple [.Name x px, .Name y py] kt pt] (.Tuple [a, b] k2 pt2) pos) (dPar [i, j] r) := ps_weak (ps_par hc hN hi hj hij hx hy ha hw hs) (by
  rintro D σ H ⟨g, S, ρ, Kd, E, R, h, k1, k2, k3, k4, hx⟩
  refine ⟨g, S, ρ, _, E, R, h, fun vs H1 S1 ρ1 fs its R1 e1 r1 q1 => ?_, hx⟩
  obtain ⟨u, _, rfl, v, _, rfl, rfl, _, ρ2, R2, q2⟩ := par_names R1 r1 q1
  exact ⟨u, v, rfl, k1 _ H1 S1 ρ2 R2 e1 q2⟩)
theorem st_parF3 {a b c : Expr} {x y z : Str} {px py pz pt : Pos} {kt k2 pt2} (i j l : Nat) (hc : X.calm = true) (hN : X.N.Nodup) (ha : DAFs X RK W [a, b, c] r) (hi : X.N[i]? = some x := by rfl) (hj : X.N[j]? = some y := by rfl) (hl : X.N[l]? = some z := by rfl)
    (hij : i ≠ j := by decide) (hil : i ≠ l := by decide) (hjl : j ≠ l := by decide)
    (hx : X.env.scope.names.lookup x = some .local := by rfl) (hy : X.env.scope.names.lookup y = some .local := by rfl) (hz : X.env.scope.names.lookup z = some .local := by rfl)
    (hw : swappedStores [.Tuple [.Name x px, .Name y py, .Name z pz] kt pt] (.Tuple [a, b, c] k2 pt2) X.env = pure (some [x, y, z]) := by rfl)
    (hs : swapsWithSole [.Tuple [.Name x px, .Name y py, .Name z pz] kt pt] (.Tuple [a, b, c] k2 pt2) pos.line X.env = pure false := by rfl) :
    DSt X RK W (.Assign [.Tuple [.Name x px, .Name y py, .Name z pz] kt pt] (.Tuple [a, b, c] k2 pt2) pos) (dPar [i, j, l] r) := ps_weak (ps_par3 hc hN hi hj hl hij hil hjl hx hy hz ha hw hs) (by
  rintro D σ H ⟨g, S, ρ, Kd, E, R, h, k1, k2, k3, k4, hx⟩
  refine ⟨g, S, ρ, _, E, R, h, fun vs H1 S1 ρ1 fs its R1 e1 r1 q1 => ?_, hx⟩
  obtain ⟨u, _, rfl, v, _, rfl, w, _, rfl, rfl, _, ρ2, R2, q2⟩ := par_names R1 r1 q1
  exact ⟨u, v, w, rfl, k1 _ H1 S1 ρ2 R2 e1 q2⟩)
/-- names as targets, in a row -/
theorem pn_nil : PGs X [] (tNames []) := pgs_weak pgs_nil fun v σ H Q h => h
theorem pn_cons {x : Str} (i : Nat) (hN : X.N.Nodup) (h2 : PGs X es (tNames is)) (hi : X.N[i]? = some x := by rfl) (hx : Loc X.env.scope x := by first | exact Or.inl rfl | exact Or.inr rfl)
    (hf : X.fn x = true ∨ X.env.scope.names.lookup x = some .local := by first | exact .inl rfl | exact .inr rfl) (hs : (assignEach (.Name x pos :: es) X.env).map (·.2) = assign (.Name x pos) X.env :: (assignEach es X.env).map (·.2) := by rfl) :
    PGs X (.Name x pos :: es) (tNames (i :: is)) := pgs_weak (pgs_cons (pg_name hN hi hx hf) h2 hs) (by
  rintro v σ H Q ⟨u, r, rfl, h⟩
  exact ⟨_, _, rfl, h⟩)
theorem st_parN {ts : List Expr} {kt k2 n : Nat} {pt pt2 : Pos} (hc : X.calm = true) (ha : DAFs X RK W es r) (ht : PGs X ts (tNames is)) (hn : (assignEach ts X.env).length = n := by rfl) (hst : (assignEach ts X.env).findIdx? (·.1) = none := by rfl) (hn2 : is.length ≤ sizeLine := by decide) (hnn : is.length = n := by rfl)
    (hs : swapsWithSole [.Tuple ts kt pt] (.Tuple es k2 pt2) pos.line X.env = pure false := by rfl) (hw : swappedStores [.Tuple ts kt pt] (.Tuple es k2 pt2) X.env = pure none := by rfl)
    (h1 : (assignEach [.Tuple ts kt pt] X.env).map (·.2) = [assign (.Tuple ts kt pt) X.env] := by rfl) : DSt X RK W (.Assign [.Tuple ts kt pt] (.Tuple es k2 pt2) pos) (dPar is r) := ps_weak (ps_asg (pe_tup ha) (pg_tup hc ht hn hst) hs hw h1) (by
  rintro D σ H ⟨g, S, ρ, Kd, E, R, h, k1, k2, k3, k4, hx⟩
  refine ⟨g, S, ρ, _, E, R, h, fun vs H1 S1 ρ1 fs its R1 e1 r1 q1 => ?_, hx⟩
  have hl := par_len q1
  have hl2 := r1.len
  refine ⟨by omega, fun T hT => ?_⟩
  refine ⟨T, vs, rfl, .inl (.inl upd_same), by omega, ?_⟩
  have R2 := R1.alloc0 (o := .tup vs) hT
  have z := par_names R2 (r1.grow hT) q1
  refine tNames_mono z fun σ' H' ⟨hH, ρ2, R3, q3⟩ => ?_
  subst hH
  exact k1 σ' _ S1 ρ2 R3 e1 q3)
where
  tNames_mono : ∀ {is : List Nat} {vs : List V} {σ : L2.St} {H : Hp} {Q Q' : L2.St → Hp → Prop}, tNames is vs σ H Q → (∀ σ' H', Q σ' H' → Q' σ' H') → tNames is vs σ H Q'
    | [], _, _, _, _, _, ⟨h1, h2⟩, k => ⟨h1, k _ _ h2⟩
    | i :: is, _, _, _, _, _, ⟨v, r, h1, h2⟩, k => ⟨v, r, h1, tNames_mono h2 k⟩
end
end DL
/-! DL15: stores -/
namespace DL
open PySem PySem.Spec PyProof.Rows L2

theorem exN {K : PySem.W.Frag} {RK : Res → Prop} {W : WX} {g : G} {S : Hp} : ExC K RK W g S EX0 := fun _ _ _ _ _ _ _ _ _ _ z => z.elim
theorem ER.putK {K : PySem.W.Frag} {RK : Res → Prop} {g : G} {S H : Hp} {σ : L2.St} {ρ : Rho} (R : ER K RK g S H σ ρ) {i : Nat} {p : Addr} {ds es : KD} {ys : List (Key × V)} (h : ρ[i]? = some (.ownK p ds)) (r : KReps K S ys es) :
    ER K RK g S (upd H p (.dK ys)) σ (ρ.set i (.ownK p es)) := by
  obtain ⟨h1, h2, h3, xs, h4, h5⟩ := R.cell i _ h
  have hi : i < σ.length := R.lt h
  refine R.setOwn (p := p) hi rfl h2 h3 (fun j hj z => R.apart j i p p z (own_of h rfl) hj rfl) (fun b o q => ?_) (fun b hb => .inl (upd_ne hb)) rfl (fun j _ => rfl) ⟨h1, h2, h3, ys, upd_same, r.keys, r.vals⟩
  by_cases hb : b = p
  · subst hb; rw [h2] at q; cases q
  · rw [upd_ne hb]; exact R.sub b o q
/-- a target x[k], x an own list -/
def bSub (i : Nat) (dk : DT) : DG := fun y ρ Q => (∃ p ds, ρ[i]? = some (.own p ds)) ∧ dk EX0 ρ fun k ρ2 => match ρ2[i]?, k with
  | some (.own p ds), .int k => ∃ j, ixN ds.length k = some j ∧ Q (ρ2.set i (.own p (ds.set j y)))
  | _, _ => False
section
variable {X : Cx} {RK : Res → Prop} {W : WX} {pos : Pos} {e : Expr} {es : List Expr} {d : DT} {r : DA} {x : Str}
theorem tg_sub {p1 p2 : Pos} {ke : Expr} {dk : DT} (i : Nat) (hk : DE X RK W0 ke dk) (hN : X.N[i]? = some x := by rfl) (hv : Vis X.env.scope x := by first | exact Or.inl rfl | exact Or.inr (Or.inl rfl) | exact Or.inr (Or.inr rfl)) (hd : (x == ("__debug__" : Str)) = false := by decide)
    (hcd : (x == ("__classdict__" : Str)) = false := by decide)
    (ha : ∀ v, assign (.Subscript (.Name x p1) ke p2) X.env v = (do
      let ov ← holding [v] (eval (.Name x p1) X.env)
      let iv ← holding [v, ov] (eval ke X.env)
      standAt p2
      holding [v, ov, iv] (setItem ov iv v)
      release [v, ov, iv] []) := by intro _; rfl) : DGt X RK (.Subscript (.Name x p1) ke p2) (bSub i dk) := pg_weak (pg_sub (pe_var hN hv hd hcd) hk set_list ha) (by
  rintro v σ H Qh ⟨g, S, ρ, y, Q, R, ry, ⟨⟨p, ds, h0⟩, h⟩, kk⟩
  obtain ⟨z1, z2, z3, xs, z4, z5⟩ := R.cell i _ h0
  refine ⟨_, z1, g, S, ρ, _, EX0, R, h, fun u H2 S2 ρ2 k R2 e2 r2 q2 => ?_, exN⟩
  cases w : ρ2[i]? with
  | none => simp only [w] at q2
  | some c =>
    cases c with
    | own p' ds' =>
      cases k with
      | int k =>
        simp only [w] at q2
        cases r2
        obtain ⟨y1, y2, y3, xs', y4, y5⟩ := R2.cell i _ w
        have ep : p' = p := by rw [z1] at y1; cases y1; rfl
        subst ep
        obtain ⟨j, k3, k5⟩ := q2
        refine ⟨p', xs', k, j, rfl, rfl, y4, by rw [y5.length]; exact k3, ?_⟩
        exact kk _ _ S2 _ (R2.put w (Reps.set (ry.up e2) j y5)) e2 k5
      | _ => simp only [w] at q2
    | _ => simp only [w] at q2)
/-- x[k] = e, x an own dict -/
def dStoreK (i : Nat) (dk de : DT) : DS := fun E D ρ => de E ρ fun y ρ1 => (∃ p ds, ρ1[i]? = some (.ownK p ds)) ∧ dk E ρ1 fun k ρ2 => match ρ2[i]? with
  | some (.ownK p ds) => ∃ q, k.key? = some q ∧ ds.length < sizeLine ∧ D.nx (ρ2.set i (.ownK p (putD ds q y)))
  | _ => False
theorem st_storeK {p1 p2 : Pos} {ke : Expr} {dk : DT} (i : Nat) (hu : X.A.units + 65 < cLine) (hk : DE X RK W ke dk) (he : DE X RK W e d) (hN : X.N[i]? = some x := by rfl) (hv : Vis X.env.scope x := by first | exact Or.inl rfl | exact Or.inr (Or.inl rfl) | exact Or.inr (Or.inr rfl)) (hd : (x == ("__debug__" : Str)) = false := by decide)
    (hcd : (x == ("__classdict__" : Str)) = false := by decide) (hs : swapsWith e (some (.Subscript (.Name x p1) ke p2)) pos.line X.env = pure false := by rfl) :
    DSt X RK W (.Assign [.Subscript (.Name x p1) ke p2] e pos) (dStoreK i dk d) :=
  ps_weak (ps_dput (by omega) (pe_var hN hv hd hcd) hk he hs) (by
  rintro D σ H ⟨g, S, ρ, Kd, E, R, h, k1, k2, k3, k4, hx⟩
  refine ⟨g, S, ρ, _, E, R, h, fun v H1 S1 ρ1 y R1 e1 r1 q1 => ?_, hx⟩
  obtain ⟨⟨p, ds, h0⟩, q1⟩ := q1
  obtain ⟨z1, z2, z3, xs, z4, z5⟩ := R1.cell i _ h0
  refine ⟨_, z1, g, S1, ρ1, _, E, R1, q1, fun u H2 S2 ρ2 k R2 e2 r2 q2 => ?_, hx.up e1⟩
  cases w : ρ2[i]? with
  | none => simp only [w] at q2
  | some c =>
    cases c with
    | ownK p' ds' =>
      simp only [w] at q2
      obtain ⟨y1, y2, y3, xs', y4, y5, y6⟩ := R2.cell i _ w
      have ep : p' = p := by rw [z1] at y1; cases y1; rfl
      subst ep
      obtain ⟨q, a1, a2, a3⟩ := q2
      have kr := KReps.of y5 y6
      refine ⟨p', _, rfl, .inl ⟨xs', q, y4, r2.key a1, by rw [kr.length]; exact a2, rfl⟩, ?_⟩
      exact k1 _ _ S2 _ (R2.putK w (kr.put (r1.up e2))) (e1.trans e2) a3
    | _ => simp only [w] at q2)
/-- x[k] op= e, x an own dict -/
def dAugK (f : D → D → (D → Prop) → Prop) (i : Nat) (dk de : DT) : DS := fun E D ρ => (∃ p ds, ρ[i]? = some (.ownK p ds)) ∧ dk E ρ fun k ρ1 => match ρ1[i]? with
  | some (.ownK p ds) => ∃ q z, k.key? = some q ∧ valD ds q = some z ∧ de E ρ1 fun y ρ2 => f z y fun w => match ρ2[i]? with
    | some (.ownK p' ds') => ds'.length < sizeLine ∧ D.nx (ρ2.set i (.ownK p' (putD ds' q w)))
    | _ => False
  | _ => False
theorem st_augK {p1 p2 : Pos} {ke : Expr} {dk : DT} {op : Operator} {ro : R2} {f : D → D → (D → Prop) → Prop} (i : Nat) (hu : X.A.units + 65 < cLine) (ho : InOp X op ro) (hf : OpD X.K ro f) (hk : DE X RK W ke dk) (he : DE X RK W e d) (hN : X.N[i]? = some x := by rfl)
    (hv : Vis X.env.scope x := by first | exact Or.inl rfl | exact Or.inr (Or.inl rfl) | exact Or.inr (Or.inr rfl)) (hd : (x == ("__debug__" : Str)) = false := by decide) (hcd : (x == ("__classdict__" : Str)) = false := by decide)
    (ha : ∀ ov iv new, augStore ke ov iv new = (do holding [new, ov, iv] (setItem ov iv new); release [new, ov, iv] []; pure .next) := by intros; rfl) :
    DSt X RK W (.AugAssign (.Subscript (.Name x p1) ke p2) op e pos) (dAugK f i dk d) :=
  ps_weak (ps_daug (by omega) (pe_var hN hv hd hcd) hk he ho ha) (by
  rintro D σ H ⟨g, S, ρ, Kd, E, R, ⟨⟨p, ds, h0⟩, h⟩, k1, k2, k3, k4, hx⟩
  obtain ⟨z1, z2, z3, xs, z4, z5⟩ := R.cell i _ h0
  refine ⟨_, z1, g, S, ρ, _, E, R, h, fun u H1 S1 ρ1 k R1 e1 r1 q1 => ?_, hx⟩
  cases w : ρ1[i]? with
  | none => simp only [w] at q1
  | some c =>
    cases c with
    | ownK p' ds' =>
      simp only [w] at q1
      obtain ⟨y1, y2, y3, xs', y4, y5, y6⟩ := R1.cell i _ w
      have ep : p' = p := by rw [z1] at y1; cases y1; rfl
      subst ep
      obtain ⟨q, z, k5, k6, k7⟩ := q1
      rcases (KReps.of y5 y6).val (k := q) with ⟨a, b⟩ | ⟨vz, dz, a, b, rz⟩
      · rw [b] at k6; cases k6
      · rw [b] at k6; cases k6
        refine ⟨p', vz, rfl, by rw [← a]; exact dget_of y4 r1 k5, g, S1, ρ1, _, E, R1, k7, fun v H2 S2 ρ2 y R2 e2 r2 q2 => ?_, hx.up e1⟩
        refine hf RK g S2 H2 σ ρ2 _ y vz v _ _ R2 (rz.up e2) r2 q2 fun wv H3 S3 wd R3 e3 r3 q3 => ?_
        cases w2 : ρ2[i]? with
        | none => simp only [w2] at q3
        | some c2 =>
          cases c2 with
          | ownK p2' ds2 =>
            simp only [w2] at q3
            obtain ⟨b1, b2, b3, xs2, b4, b5, b6⟩ := R3.cell i _ w2
            have ep2 : p2' = p' := by rw [y1] at b1; cases b1; rfl
            subst ep2
            have kr := KReps.of b5 b6
            refine ⟨_, .inl ⟨xs2, q, b4, r1.key k5, by rw [kr.length]; exact q3.1, rfl⟩, ?_⟩
            exact k1 _ _ S3 _ (R3.putK w2 (kr.put r3)) ((e1.trans e2).trans e3) q3.2
          | _ => simp only [w2] at q3
    | _ => simp only [w] at q1)
end
end DL
/-! DL16: defs by their names -/
namespace DL
open PySem PySem.Spec PyProof.Rows L2

theorem tk0 {X : Cx} : Takes X W0 := fun _ _ x => by
  obtain ⟨_, _, _, _, _, _, _, _, _, _, _, _, _, _, _, _, z⟩ := x
  exact z.elim
/-- a def of the module that may be called by its name -/
structure Can (γ : Bool) (P : Program) (w : World) (K : PySem.W.Frag) (mg : Str → Option Value) (base : Heap) (k : Nat) (x : Str) (ps : List Str) (sp : Sp) : Prop where
  ex : ∃ (f : Addr) (fd : FuncData), mg x = some (.ref f) ∧ PySem.W.keepIn K (.ref f) = true ∧ Binds K fd ps [] ∧ FnG γ P w K mg base k f fd ps sp
/-- a def's text, as the top has left it -/
structure Has (K : PySem.W.Frag) (mg : Str → Option Value) (x : Str) (st : Stmt) (ps : List Str) : Prop where
  ex : ∃ (f : Addr) (fd : FuncData), mg x = some (.ref f) ∧ PySem.W.keepIn K (.ref f) = true ∧ Binds K fd ps [] ∧ Fun K x x st f fd
theorem has_mk {K : PySem.W.Frag} {mg : Str → Option Value} {h : Heap} {x : Str} {st : Stmt} {ps : List Str} {f : Addr} {oc : Value} {od an : Option Addr} {osl : Array (Option Value)} {kV doc pm cdv ct : Value} (X : K.In h) (G : h.Ns mainGlobals mg)
    (a : PySem.W.nsIn K mainGlobals x = some (some (.ref f))) (l : K.lookup f = some ⟨oc, od, .func (PySem.W.fnOf x x (defArgs st) (defBody st) (defScope st) .none kV doc pm an cdv ct), osl⟩) (c : PySem.W.codeIn K cdv x = true) (k : PySem.W.keepIn K (.ref f) = true)
    (hb : ∀ (kV doc pm : Value) (an : Option Addr) (cdv ct : Value) (us : List Value), us.length = ps.length → bindArgs (PySem.W.fnOf x x (defArgs st) (defBody st) (defScope st) .none kV doc pm an cdv ct) ⟨us, []⟩ = pure (ps.zip us)) : Has K mg x st ps := by
  have F := fun_mk (st := st) l c k
  exact ⟨f, _, PySem.W.mg_of X G a, k, F.binds hb, F⟩
section
variable {P : Program} {w : World} {K : PySem.W.Frag} {mg : Str → Option Value} {base : Heap} {x : Str} {st : Stmt} {N ps : List Str} {k : Nat} {T : TSp} {d : DS} {γ : Bool}
theorem Can.up {j : Nat} {sp : Sp} (c : Can γ P w K mg base j x ps sp) (h : j ≤ k) : Can γ P w K mg base k x ps sp := by
  obtain ⟨f, fd, h1, h2, h3, F⟩ := c.ex
  exact ⟨f, fd, h1, h2, h3, F.up h⟩
theorem can_p (F : Has K mg x st ps) (Sc : FnScope N ps (defScope st)) (hlen : ∀ ds R E, T ds R E → ds.length = ps.length)
    (hd : ∀ (f : Addr) (cdv : Value) (A : Around) (outer : List Env) (s : Shared) (H : Hp) (E : XK), Room k (A.deeper (envOfC x (defScope st) s.heap.objs.size f cdv)) → GdB γ (A.deeper (envOfC x (defScope st) s.heap.objs.size f cdv)) →
      DSs (cxOf (L2.CX P w) P w K mg base N x (defScope st) f cdv A outer s H E) (fun _ => True) (fun cls dd _ H' => E cls dd H') (defBody st) d)
    (hq : ∀ ds R E, T ds R E → d (fun x _ => E x) { nx := fun _ => R .non, rt := fun x _ => R x } (rho0 N.length ds)) : Can γ P w K mg base (k + 1) x ps (spP K T) := by
  obtain ⟨f, fd, h1, h2, h3, h4⟩ := F.ex
  exact ⟨f, fd, h1, h2, h3, def_p h4 Sc hlen (hd f) hq⟩
theorem can_r {RK : Res → Prop} {p0 : Str} (F : Has K mg x st (p0 :: ps)) (Sc : FnScope N (p0 :: ps) (defScope st)) (hlen : ∀ ds R E, T ds R E → ds.length = ps.length)
    (hd : ∀ (f : Addr) (cdv : Value) (A : Around) (outer : List Env) (s : Shared) (H : Hp) (E : XK), Room k (A.deeper (envOfC x (defScope st) s.heap.objs.size f cdv)) → GdB γ (A.deeper (envOfC x (defScope st) s.heap.objs.size f cdv)) →
      DSs (cxOf (L2.CX P w) P w K mg base N x (defScope st) f cdv A outer s H E) RK (fun cls dd _ H' => E cls dd H') (defBody st) d)
    (hq : ∀ ds R E, T ds R E → d (fun x _ => E x) { nx := fun _ => R .non, rt := fun x _ => R x } (rhoR N.length ds)) : Can γ P w K mg base (k + 1) x (p0 :: ps) (spR K RK T) := by
  obtain ⟨f, fd, h1, h2, h3, h4⟩ := F.ex
  exact ⟨f, fd, h1, h2, h3, def_r h4 Sc hlen (hd f) hq⟩
theorem can_h {inv : List D → Prop} {p0 : Str} (F : Has K mg x st (p0 :: ps)) (Sc : FnScope N (p0 :: ps) (defScope st)) (hlen : ∀ ds R E, T ds R E → ds.length = ps.length)
    (hd : ∀ (f : Addr) (cdv : Value) (A : Around) (outer : List Env) (s : Shared) (H : Hp) (E : XK), Room k (A.deeper (envOfC x (defScope st) s.heap.objs.size f cdv)) → GdB γ (A.deeper (envOfC x (defScope st) s.heap.objs.size f cdv)) →
      DSs (cxOf (L2.CX P w) P w K mg base N x (defScope st) f cdv A outer s H E) (fun _ => True) (fun cls dd _ H' => E cls dd H') (defBody st) d)
    (hq : ∀ ds R E hs p, T ds R E → inv hs → d (fun _ _ => False) { nx := fun ρ => ∃ hs', ρ[0]? = some (.own p hs') ∧ inv hs' ∧ R .non, rt := fun x ρ => ∃ hs', ρ[0]? = some (.own p hs') ∧ inv hs' ∧ R x } (.own p hs :: rho0 (N.length - 1) ds)) :
    Can γ P w K mg base (k + 1) x (p0 :: ps) (spR K (lRK K inv) T) := by
  obtain ⟨f, fd, h1, h2, h3, h4⟩ := F.ex
  exact ⟨f, fd, h1, h2, h3, def_h h4 Sc hlen (hd f) hq⟩
theorem can_law {n : Nat} {p0 : Str} {s1 : Stmt} {rest : List Stmt} {t : DS} (F : Has K mg x st [p0]) (Sc : FnScope N [p0] (defScope st)) (hbody : defBody st = s1 :: rest)
    (hd : ∀ (zs : List Int) (f : Addr) (cdv : Value) (A : Around) (outer : List Env) (s : Shared) (H : Hp) (E : XK), Room k (A.deeper (envOfC x (defScope st) s.heap.objs.size f cdv)) → GdB γ (A.deeper (envOfC x (defScope st) s.heap.objs.size f cdv)) →
      DSt (cxOf (L2.CX P w) P w K mg base N x (defScope st) f cdv A outer s H E) (scrRK K zs) (fun cls dd _ H' => E cls dd H') s1 (dSet 1 (dCallR THand 0 dANil)) ∧
      DSs (cxOf (L2.CX P w) P w K mg base N x (defScope st) f cdv A outer s H E) (RKh K) (fun cls dd _ H' => E cls dd H') rest t)
    (hN : 2 ≤ N.length) (hq : t (fun _ _ => False) { nx := fun _ => False, rt := fun x _ => x = .bl true } (.un :: .res :: List.replicate (N.length - 2) .un)) : Can γ P w K mg base (k + 1) x [p0] (spLaw K n) := by
  obtain ⟨f, fd, h1, h2, h3, h4⟩ := F.ex
  exact ⟨f, fd, h1, h2, h3, def_law h4 Sc hbody (fun zs => hd zs f) hN hq⟩
end
/-- the law's def, for the end -/
theorem law_fd {P : Program} {w : World} {K : PySem.W.Frag} {mg : Str → Option Value} {base : Heap} {k n : Nat} {x p0 : Str} {fa : Addr} (hm : mg x = some (.ref fa)) (C : Can true P w K mg base k x [p0] (spLaw K n)) :
    ∃ fd : FuncData, (∀ (s : Shared) (u : Value), K.In s.heap → BindsTo s fd ⟨[u], []⟩ [(p0, u)]) ∧ FnG true P w K mg base k fa fd [p0] (spLaw K n) := by
  obtain ⟨f, fd, h1, h2, h3, F⟩ := C.ex
  rw [hm] at h1
  cases h1
  exact ⟨fd, fun s u hK => h3 s [u] hK rfl, F⟩

section
variable {X : Cx} {RK : Res → Prop} {W : WX} {j k : Nat} {ps : List Str} {T : TSp} {x y : Str} {p p2 pos : Pos} {e : Expr} {es : List Expr} {r : DA} {i : Int} {γ : Bool}
theorem de_c (c : Can γ X.prog X.w X.K X.mg X.base k x ps (spP X.K T)) (mono : MonoT T) (hr : Room j X.A) (hk : k ≤ j) (hgd : GdB γ X.A) (hg : Gl X x) (tk : Takes X W) (ha : DAs X RK W (e :: es) r) (hdb : (x == ("__debug__" : Str)) = false := by decide)
    (he : starEach (e :: es) X.env = (false, eval e X.env) :: starEach es X.env := by rfl) (hpl : (backTo pos (starEach es X.env)).any (·.1) = false := by rfl) : DE X RK W (.Call (.Name x p) (e :: es) [] pos) (dCall T r) := by
  obtain ⟨f, fd, h1, h2, h3, F⟩ := c.ex
  exact de_call F mono (hr.mono hk) hgd hg h1 h2 h3 tk ha hdb he hpl
theorem de_c0 (c : Can γ X.prog X.w X.K X.mg X.base k x ps (spP X.K T)) (mono : MonoT T) (hr : Room j X.A) (hk : k ≤ j) (hgd : GdB γ X.A) (hg : Gl X x) (tk : Takes X W) (hdb : (x == ("__debug__" : Str)) = false := by decide) : DE X RK W (.Call (.Name x p) [] [] pos) (dCall T dANil) := by
  obtain ⟨f, fd, h1, h2, h3, F⟩ := c.ex
  exact de_call0 F mono (hr.mono hk) hgd hg h1 h2 h3 tk hdb
theorem de_cR (i : Nat) (c : Can γ X.prog X.w X.K X.mg X.base k x ps (spR X.K RK T)) (mono : MonoT T) (hr : Room j X.A) (hk : k ≤ j) (hgd : GdB γ X.A) (hg : Gl X x) (tk : Takes X W) (ha : DAs X RK W es r) (hN : X.N[i]? = some y := by rfl)
    (hv : Vis X.env.scope y := by first | exact Or.inl rfl | exact Or.inr (Or.inl rfl) | exact Or.inr (Or.inr rfl)) (hd1 : (y == ("__debug__" : Str)) = false := by decide) (hd2 : (y == ("__classdict__" : Str)) = false := by decide) (hdb : (x == ("__debug__" : Str)) = false := by decide)
    (he : starEach (.Name y p2 :: es) X.env = (false, eval (.Name y p2) X.env) :: starEach es X.env := by rfl) (hpl : (backTo pos (starEach es X.env)).any (·.1) = false := by rfl) : DE X RK W (.Call (.Name x p) (.Name y p2 :: es) [] pos) (dCallR T i r) := by
  obtain ⟨f, fd, h1, h2, h3, F⟩ := c.ex
  exact de_callR i F mono (hr.mono hk) hgd hg h1 h2 h3 tk ha hN hv hd1 hd2 hdb he hpl
/-- a module's number -/
theorem de_gi (h : ∃ t, X.mg x = some (.int i t)) (hg : Gl X x := by rfl) (hd : (x == ("__debug__" : Str)) = false := by decide) : DE X RK W (.Name x pos) (dC (.int i)) := by
  obtain ⟨t, h⟩ := h
  exact de_glob hg h (v := .int i) ⟨t, rfl⟩ (fun _ => .int i) hd
theorem room_u (hr : Room j X.A) : X.A.units + 65 < cLine := by have := hr.un; omega
theorem room_u64 (hr : Room j X.A) : X.A.units + 64 < cLine := by have := hr.un; omega
theorem room_u0 (hr : Room j X.A) : X.A.units < cLine := by have := hr.un; omega
end
end DL
/-! DL17: small words of the printed derivations -/
namespace DL
open PySem PySem.Spec PyProof.Rows L2

theorem bt_int : bootBuiltins "int" = some (.type "int") := by decide +kernel
theorem bt_bool : bootBuiltins "bool" = some (.type "bool") := by decide +kernel
theorem bt_str : bootBuiltins "str" = some (.type "str") := by decide +kernel
theorem bt_list : bootBuiltins "list" = some (.type "list") := by decide +kernel
theorem bt_tuple : bootBuiltins "tuple" = some (.type "tuple") := by decide +kernel
theorem bt_dict : bootBuiltins "dict" = some (.type "dict") := by decide +kernel
theorem bt_isinstance : bootBuiltins "isinstance" = some (.builtin "isinstance") := by decide +kernel
theorem bt_len : bootBuiltins "len" = some (.builtin "len") := by decide +kernel
theorem bt_abs : bootBuiltins "abs" = some (.builtin "abs") := by decide +kernel
theorem bt_min : bootBuiltins "min" = some (.builtin "min") := by decide +kernel
theorem bt_max : bootBuiltins "max" = some (.builtin "max") := by decide +kernel
theorem bt_sum : bootBuiltins "sum" = some (.builtin "sum") := by decide +kernel
theorem bt_any : bootBuiltins "any" = some (.builtin "any") := by decide +kernel
theorem bt_all : bootBuiltins "all" = some (.builtin "all") := by decide +kernel
theorem bt_sorted : bootBuiltins "sorted" = some (.builtin "sorted") := by decide +kernel
theorem bt_repr : bootBuiltins "repr" = some (.builtin "repr") := by decide +kernel
section
variable {P : Program} {w : World} {K : PySem.W.Frag} {mg : Str → Option Value} {base : Heap} {N : List Str} {qual : Str} {scope : Scope} {f : Addr} {cd : Value} {A : Around} {outer : List Env} {s : Shared} {H : Hp} {E : XK}
theorem tkW : Takes (cxOf (L2.CX P w) P w K mg base N qual scope f cd A outer s H E) (fun cls dd _ H' => E cls dd H') := takes_of rfl rfl rfl rfl
theorem psW : PassesOwn (model (cxOf (L2.CX P w) P w K mg base N qual scope f cd A outer s H E).prog (cxOf (L2.CX P w) P w K mg base N qual scope f cd A outer s H E).w) (cxOf (L2.CX P w) P w K mg base N qual scope f cd A outer s H E).A (cxOf (L2.CX P w) P w K mg base N qual scope f cd A outer s H E).env
    (cxOf (L2.CX P w) P w K mg base N qual scope f cd A outer s H E).xe := passes_of rfl
end
theorem lookup_relabel {env : Env} {x : Str} : ∀ {names : List (Str × NameKind)}, (names.lookup x = some .cell ∨ names.lookup x = some .free) →
    ((names.map fun (n, k) => if (k == NameKind.free && env.scope.kind == .function && env.kindOf n == some .cell) then (n, NameKind.cell) else (n, k)).lookup x = some .cell ∨
      (names.map fun (n, k) => if (k == NameKind.free && env.scope.kind == .function && env.kindOf n == some .cell) then (n, NameKind.cell) else (n, k)).lookup x = some .free)
  | [], h => by simp at h
  | (n, k) :: r, h => by
    rw [List.map_cons]
    dsimp only
    by_cases e : x = n
    · subst e
      simp only [List.lookup_cons, beq_self_eq_true, Option.some.injEq] at h
      rcases h with h | h
      · subst h
        rw [if_neg (by intro z; simp at z)]
        exact .inl (by simp [List.lookup_cons])
      · subst h
        split
        · exact .inl (by simp [List.lookup_cons])
        · exact .inr (by simp [List.lookup_cons])
    · have hb : (x == n) = false := beq_eq_false_iff_ne.mpr e
      simp only [List.lookup_cons, hb] at h
      have ih := lookup_relabel (env := env) (names := r) h
      split
      · simp only [List.lookup_cons, hb]; exact ih
      · simp only [List.lookup_cons, hb]; exact ih
theorem blkOk_relabel {N : List Str} {sc scope : Scope} {env : Env} {own : List (Str × Nat)} (h : BlkOk N sc scope own) : BlkOk N (relabel sc env) scope own :=
  ⟨h.kind, h.uniq, h.ix, fun y hy e => lookup_relabel (h.free y hy e), h.own⟩
end DL
/-! DL18: lemmas of the plain part -/
namespace DL
open PySem PySem.Spec PyProof.Rows L2

@[simp] theorem rho_get0 {c : Cell} {r : Rho} : (c :: r)[0]? = some c := rfl
theorem szl : (63 : Nat) ≤ sizeLine := by decide
theorem sz_of {n : Nat} (h : n ≤ 1000000) : n ≤ sizeLine := by rw [sizeLine_eq]; omega

/-! ### branches -/
@[simp] def br (b : Bool) (P Q : Prop) : Prop := (b = true → P) ∧ (b = false → Q)
def onB (x : D) (k : Bool → Prop) : Prop := match x with
  | .bl b => k b
  | _ => False
@[simp] theorem onB_s {b : Bool} {k : Bool → Prop} : onB (.bl b) k = k b := rfl
theorem br_match {b : Bool} {P Q : Prop} : (match b with | true => P | false => Q) = br b P Q := by
  cases b <;> simp
@[simp] theorem dBAnd_s {p q : DB} {E : EK} {ρ : Rho} {Q : Bool → Rho → Prop} : dBAnd p q E ρ Q = p E ρ fun b ρ1 => br b (q E ρ1 Q) (Q false ρ1) := by
  unfold dBAnd; congr 1; funext b ρ1; cases b <;> simp
@[simp] theorem dBOr_s {p q : DB} {E : EK} {ρ : Rho} {Q : Bool → Rho → Prop} : dBOr p q E ρ Q = p E ρ fun b ρ1 => br b (Q true ρ1) (q E ρ1 Q) := by
  unfold dBOr; congr 1; funext b ρ1; cases b <;> simp
@[simp] theorem dAndV_s {p q : DT} {E : EK} {ρ : Rho} {Q : D → Rho → Prop} : dAndV p q E ρ Q = p E ρ fun x ρ1 => onB x fun b => br b (q E ρ1 Q) (Q (.bl false) ρ1) := by
  unfold dAndV; congr 1; funext x ρ1
  cases x with
  | bl b => cases b <;> simp
  | _ => rfl
@[simp] theorem dOrV_s {p q : DT} {E : EK} {ρ : Rho} {Q : D → Rho → Prop} : dOrV p q E ρ Q = p E ρ fun x ρ1 => onB x fun b => br b (Q (.bl true) ρ1) (q E ρ1 Q) := by
  unfold dOrV; congr 1; funext x ρ1
  cases x with
  | bl b => cases b <;> simp
  | _ => rfl
@[simp] theorem dIfE_s {t : DB} {p q : DT} {E : EK} {ρ : Rho} {Q : D → Rho → Prop} : dIfE t p q E ρ Q = t E ρ fun b ρ1 => br b (p E ρ1 Q) (q E ρ1 Q) := by
  unfold dIfE; congr 1; funext b ρ1; cases b <;> simp
@[simp] theorem dIf_s {c : DB} {t u : DS} {E : EK} {Kd : DEnds} {ρ : Rho} : dIf c t u E Kd ρ = c E ρ fun b ρ1 => br b (t E Kd ρ1) (u E Kd ρ1) := by
  unfold dIf; congr 1; funext b ρ1; cases b <;> simp
@[simp] theorem dChain_s {f f' : D → D → (D → Prop) → Prop} {da db dc : DT} {E : EK} {ρ : Rho} {Q : D → Rho → Prop} :
    dChain f f' da db dc E ρ Q = da E ρ fun x ρ1 => db E ρ1 fun y ρ2 => f x y fun z => onB z fun b => br b (dc E ρ2 fun w ρ3 => f' y w fun z' => Q z' ρ3) (Q (.bl false) ρ2) := by
  unfold dChain; congr 1; funext x ρ1; congr 1; funext y ρ2; congr 1; funext z
  cases z with
  | bl b => cases b <;> simp
  | _ => rfl
/-! ### a state that is known -/
section
variable {E : EK} {c : Cell} {r : Rho} {Q : D → Rho → Prop} {Kd : DEnds} {d da db dk de : DT} {f : D → D → (D → Prop) → Prop} {i : Nat} {neg : Bool}
@[simp] theorem dVar_s : dVar i E (c :: r) Q = match (c :: r)[i]? with
  | some (.dat d) => Q d (c :: r)
  | some (.own _ ds) => Q (.lst ds) ((c :: r).set i (.dat (.lst ds)))
  | some (.ownK _ ks) => Q (.dct (ks.map (·.1)) (ks.map (·.2))) ((c :: r).set i (.dat (.dct (ks.map (·.1)) (ks.map (·.2)))))
  | _ => False := by unfold dVar; rfl
@[simp] theorem dLenN_s : dLenN i E (c :: r) Q = match (c :: r)[i]? with
  | some (.own _ ds) => Q (.int ds.length) (c :: r)
  | some (.ownK _ ks) => Q (.int ks.length) (c :: r)
  | some (.dat d) => fLen [d] fun z => Q z (c :: r)
  | _ => False := by unfold dLenN; rfl
def ownIx (o : Option Cell) (y : D) (k : D → Prop) : Prop := match o, y with
  | some (.own _ ds), .int j => ∃ z, atI ds j = some z ∧ k z
  | some (.ownK _ kds), y => ∃ q z, y.key? = some q ∧ valD kds q = some z ∧ k z
  | some (.dat d), y => fIxK d y k
  | _, _ => False
@[simp] theorem ownIx_own {p : Addr} {ds : List D} {j : Int} {k : D → Prop} : ownIx (some (.own p ds)) (.int j) k = ∃ z, atI ds j = some z ∧ k z := rfl
@[simp] theorem ownIx_ownK {p : Addr} {ds : KD} {y : D} {k : D → Prop} : ownIx (some (.ownK p ds)) y k = ∃ q z, y.key? = some q ∧ valD ds q = some z ∧ k z := by cases y <;> rfl
@[simp] theorem ownIx_dat {d y : D} {k : D → Prop} : ownIx (some (.dat d)) y k = fIxK d y k := by cases y <;> rfl
/-- a look at a place that is still of the same kind -/
theorem dIxK_own {p : Addr} {ds : List D} (h : (c :: r)[i]? = some (.own p ds)) (k : db E (c :: r) fun y ρ1 => ∃ p' ds' j z, ρ1[i]? = some (.own p' ds') ∧ y = .int j ∧ atI ds' j = some z ∧ Q z ρ1)
    (mono : ∀ Q Q' : D → Rho → Prop, (∀ y ρ, Q y ρ → Q' y ρ) → db E (c :: r) Q → db E (c :: r) Q') : dIxK i db E (c :: r) Q := by
  unfold dIxK
  simp only [h]
  refine mono _ _ (fun y ρ1 ⟨p', ds', j, z, h1, h2, h3, h4⟩ => ?_) k
  subst h2
  simp only [h1]
  exact ⟨z, h3, h4⟩
@[simp] theorem dIxK_s : dIxK i db E (c :: r) Q = match (c :: r)[i]? with
  | some (.own _ _) => db E (c :: r) fun y ρ1 => match ρ1[i]?, y with
    | some (.own _ ds), .int k => ∃ z, atI ds k = some z ∧ Q z ρ1
    | _, _ => False
  | some (.ownK _ _) => db E (c :: r) fun y ρ1 => match ρ1[i]? with
    | some (.ownK _ kds) => ∃ q z, y.key? = some q ∧ valD kds q = some z ∧ Q z ρ1
    | _ => False
  | some (.dat d) => db E (c :: r) fun y ρ1 => fIxK d y fun z => Q z ρ1
  | _ => False := by unfold dIxK; rfl
def inOf (neg : Bool) (f : D → D → (D → Prop) → Prop) (o : Option Cell) (y : D) (k : D → Prop) : Prop := match o with
  | some (.own _ ds) => y.flat = true ∧ ds.all D.flat = true ∧ k (.bl (D.mem y ds != neg))
  | some (.ownK _ kds) => ∃ q, y.key? = some q ∧ k (.bl ((valD kds q).isSome != neg))
  | some (.dat d) => f y d k
  | _ => False
@[simp] theorem inOf_own {p : Addr} {ds : List D} {y : D} {k : D → Prop} : inOf neg f (some (.own p ds)) y k = (y.flat = true ∧ ds.all D.flat = true ∧ k (.bl (D.mem y ds != neg))) := rfl
@[simp] theorem inOf_ownK {p : Addr} {ds : KD} {y : D} {k : D → Prop} : inOf neg f (some (.ownK p ds)) y k = ∃ q, y.key? = some q ∧ k (.bl ((valD ds q).isSome != neg)) := rfl
@[simp] theorem inOf_dat {d y : D} {k : D → Prop} : inOf neg f (some (.dat d)) y k = f y d k := rfl
@[simp] theorem dInK_s {ρ : Rho} : dInK neg f da i E ρ Q = da E ρ fun y ρ1 => inOf neg f ρ1[i]? y fun z => Q z ρ1 := by
  unfold dInK inOf; rfl

@[simp] theorem dAug_s : dAug f i d E Kd (c :: r) = match (c :: r)[i]? with
  | some (.dat z) => d E (c :: r) fun y ρ1 => f z y fun w => Kd.nx (ρ1.set i (.dat w))
  | _ => False := by unfold dAug; rfl
def onOwn (o : Option Cell) (k : Addr → List D → Prop) : Prop := match o with
  | some (.own p ds) => k p ds
  | _ => False
def onOwnK (o : Option Cell) (k : Addr → KD → Prop) : Prop := match o with
  | some (.ownK p ds) => k p ds
  | _ => False
@[simp] theorem onOwn_s {p : Addr} {ds : List D} {k : Addr → List D → Prop} : onOwn (some (.own p ds)) k = k p ds := rfl
@[simp] theorem onOwnK_s {p : Addr} {ds : KD} {k : Addr → KD → Prop} : onOwnK (some (.ownK p ds)) k = k p ds := rfl
def onI (x : D) (k : Int → Prop) : Prop := match x with
  | .int i => k i
  | _ => False
@[simp] theorem onI_s {j : Int} {k : Int → Prop} : onI (.int j) k = k j := rfl
@[simp] theorem dApp_s {ρ : Rho} : dApp i d E ρ Q = ((∃ p ds, ρ[i]? = some (.own p ds)) ∧ d E ρ fun y ρ1 => onOwn ρ1[i]? fun p ds => ds.length < sizeLine ∧ Q .non (ρ1.set i (.own p (ds ++ [y])))) := by
  unfold dApp onOwn; rfl
@[simp] theorem dPopAt_s {ρ : Rho} : dPopAt i d E ρ Q = ((∃ p ds, ρ[i]? = some (.own p ds)) ∧ d E ρ fun y ρ1 => onOwn ρ1[i]? fun p ds => onI y fun k => ∃ j z, -(2 ^ 63) ≤ k ∧ k < 2 ^ 63 ∧ seqIndex? k ds.length = some j ∧ ds[j]? = some z ∧ Q z (ρ1.set i (.own p (ds.eraseIdx j)))) := by
  unfold dPopAt onOwn onI; congr 2; funext y ρ1; cases y <;> (cases ρ1[i]? with
    | none => rfl
    | some c => cases c <;> rfl)
@[simp] theorem dPop_s {ρ : Rho} : dPop i E ρ Q = onOwn ρ[i]? fun p ds => ∃ z, ds[ds.length - 1]? = some z ∧ Q z (ρ.set i (.own p ds.dropLast)) := by
  unfold dPop onOwn; cases ρ[i]? with
  | none => rfl
  | some c => cases c <;> rfl
@[simp] theorem dStore_s {ρ : Rho} : dStore i dk de E Kd ρ = de E ρ fun y ρ1 => (∃ p ds, ρ1[i]? = some (.own p ds)) ∧ dk E ρ1 fun k ρ2 => onOwn ρ2[i]? fun p ds => onI k fun k => ∃ j, ixN ds.length k = some j ∧ Kd.nx (ρ2.set i (.own p (ds.set j y))) := by
  unfold dStore onOwn onI; congr 1; funext y ρ1; congr 2; funext k ρ2; cases k <;> (cases ρ2[i]? with
    | none => rfl
    | some c => cases c <;> rfl)
@[simp] theorem bSub_s {y : D} {ρ : Rho} {k : Rho → Prop} : bSub i dk y ρ k = ((∃ p ds, ρ[i]? = some (.own p ds)) ∧ dk EX0 ρ fun q ρ2 => onOwn ρ2[i]? fun p ds => onI q fun q => ∃ j, ixN ds.length q = some j ∧ k (ρ2.set i (.own p (ds.set j y)))) := by
  unfold bSub onOwn onI; congr 2; funext q ρ2; cases q <;> (cases ρ2[i]? with
    | none => rfl
    | some c => cases c <;> rfl)
@[simp] theorem dAugStore_s {ρ : Rho} : dAugStore f i dk de E Kd ρ = ((∃ p ds, ρ[i]? = some (.own p ds)) ∧ dk E ρ fun k ρ1 => onOwn ρ1[i]? fun p ds => onI k fun k => ∃ j z, ixN ds.length k = some j ∧ ds[j]? = some z ∧ de E ρ1 fun y ρ2 => f z y fun w => onOwn ρ2[i]? fun p' ds' => ∃ j', ixN ds'.length k = some j' ∧ Kd.nx (ρ2.set i (.own p' (ds'.set j' w)))) := by
  unfold dAugStore onOwn onI; congr 2; funext k ρ1
  cases k <;> (cases ρ1[i]? with
    | none => rfl
    | some c => cases c <;> rfl)
@[simp] theorem dStoreK_s {ρ : Rho} : dStoreK i dk de E Kd ρ = de E ρ fun y ρ1 => (∃ p ds, ρ1[i]? = some (.ownK p ds)) ∧ dk E ρ1 fun k ρ2 => onOwnK ρ2[i]? fun p ds => ∃ q, k.key? = some q ∧ ds.length < sizeLine ∧ Kd.nx (ρ2.set i (.ownK p (putD ds q y))) := by
  unfold dStoreK onOwnK; rfl
@[simp] theorem dAugK_s {ρ : Rho} : dAugK f i dk de E Kd ρ = ((∃ p ds, ρ[i]? = some (.ownK p ds)) ∧ dk E ρ fun k ρ1 => onOwnK ρ1[i]? fun p ds => ∃ q z, k.key? = some q ∧ valD ds q = some z ∧ de E ρ1 fun y ρ2 => f z y fun w => onOwnK ρ2[i]? fun p' ds' => ds'.length < sizeLine ∧ Kd.nx (ρ2.set i (.ownK p' (putD ds' q w)))) := by
  unfold dAugK onOwnK; rfl



end
section
variable {E : EK} {ρ : Rho} {d d' : DT}
@[simp] theorem dTst_s {Q : Bool → Rho → Prop} : dTst d E ρ Q = d E ρ fun x ρ1 => onB x fun b => Q b ρ1 := by unfold dTst onB; rfl
@[simp] theorem dNotV_s {Q : D → Rho → Prop} : dNotV d E ρ Q = d E ρ fun x ρ1 => onB x fun b => Q (.bl (!b)) ρ1 := by unfold dNotV onB; rfl
@[simp] theorem dNeg_s {Q : D → Rho → Prop} : dNeg d E ρ Q = d E ρ fun x ρ1 => onI x fun i => Q (.int (-i)) ρ1 := by unfold dNeg onI; rfl
@[simp] theorem dPart_s {Q : Option Int → Rho → Prop} : dPart d E ρ Q = d E ρ fun x ρ1 => onI x fun i => Q (some i) ρ1 := by unfold dPart onI; rfl
@[simp] theorem dRg1_s {Q : Int → Int → Rho → Prop} : dRg1 d E ρ Q = d E ρ fun x ρ1 => onI x fun i => Q 0 i ρ1 := by unfold dRg1 onI; rfl
@[simp] theorem dRg2_s {Q : Int → Int → Rho → Prop} : dRg2 d d' E ρ Q = d E ρ fun x ρ1 => d' E ρ1 fun y ρ2 => onI x fun i => onI y fun j => Q i j ρ2 := by
  unfold dRg2 onI; congr 1; funext x ρ1; congr 1; funext y ρ2; cases x <;> cases y <;> rfl
end
/-! ### kinds of what is known -/
@[simp] theorem tyN_non  : D.non.tyN = some "NoneType" := rfl
@[simp] theorem isTy_non  {T : String} : D.non.isTy T = subTy "NoneType" T := rfl
@[simp] theorem isN_non  : D.non.isN = some true := rfl
@[simp] theorem flat_non  : D.non.flat = true := rfl
@[simp] theorem key_non  : D.non.key? = none := rfl
@[simp] theorem tyN_bl {b : Bool} : (D.bl b).tyN = some "bool" := rfl
@[simp] theorem isTy_bl {b : Bool} {T : String} : (D.bl b).isTy T = subTy "bool" T := rfl
@[simp] theorem isN_bl {b : Bool} : (D.bl b).isN = some false := rfl
@[simp] theorem flat_bl {b : Bool} : (D.bl b).flat = true := rfl
@[simp] theorem key_bl {b : Bool} : (D.bl b).key? = none := rfl
@[simp] theorem tyN_int {i : Int} : (D.int i).tyN = some "int" := rfl
@[simp] theorem isTy_int {i : Int} {T : String} : (D.int i).isTy T = subTy "int" T := rfl
@[simp] theorem isN_int {i : Int} : (D.int i).isN = some false := rfl
@[simp] theorem flat_int {i : Int} : (D.int i).flat = true := rfl
@[simp] theorem key_int {i : Int} : (D.int i).key? = some (.inl i) := rfl
@[simp] theorem tyN_str {y : Str} : (D.str y).tyN = some "str" := rfl
@[simp] theorem isTy_str {y : Str} {T : String} : (D.str y).isTy T = subTy "str" T := rfl
@[simp] theorem isN_str {y : Str} : (D.str y).isN = some false := rfl
@[simp] theorem flat_str {y : Str} : (D.str y).flat = true := rfl
@[simp] theorem key_str {y : Str} : (D.str y).key? = some (.inr y) := rfl
@[simp] theorem tyN_tup {ds : List D} : (D.tup ds).tyN = some "tuple" := rfl
@[simp] theorem isTy_tup {ds : List D} {T : String} : (D.tup ds).isTy T = subTy "tuple" T := rfl
@[simp] theorem isN_tup {ds : List D} : (D.tup ds).isN = some false := rfl
@[simp] theorem flat_tup {ds : List D} : (D.tup ds).flat = false := rfl
@[simp] theorem key_tup {ds : List D} : (D.tup ds).key? = none := rfl
@[simp] theorem tyN_lst {ds : List D} : (D.lst ds).tyN = some "list" := rfl
@[simp] theorem isTy_lst {ds : List D} {T : String} : (D.lst ds).isTy T = subTy "list" T := rfl
@[simp] theorem isN_lst {ds : List D} : (D.lst ds).isN = some false := rfl
@[simp] theorem flat_lst {ds : List D} : (D.lst ds).flat = false := rfl
@[simp] theorem key_lst {ds : List D} : (D.lst ds).key? = none := rfl
@[simp] theorem tyN_dct {ks : List Key} {ds : List D} : (D.dct ks ds).tyN = some "dict" := rfl
@[simp] theorem isTy_dct {ks : List Key} {ds : List D} {T : String} : (D.dct ks ds).isTy T = subTy "dict" T := rfl
@[simp] theorem isN_dct {ks : List Key} {ds : List D} : (D.dct ks ds).isN = some false := rfl
@[simp] theorem flat_dct {ks : List Key} {ds : List D} : (D.dct ks ds).flat = false := rfl
@[simp] theorem key_dct {ks : List Key} {ds : List D} : (D.dct ks ds).key? = none := rfl
@[simp] theorem tyN_raw {v : V} : (D.raw v).tyN = none := rfl
@[simp] theorem tyN_fn {x : Str} : (D.fn x).tyN = none := rfl
/-! ### operations on what is known -/
@[simp] theorem fAdd_0 {i : Int} {j : Int} {k : D → Prop} : fAdd (.int i) (.int j) k = (k (.int (i + j))) := rfl
@[simp] theorem fAdd_1 {i : Int} {b : Bool} {k : D → Prop} : fAdd (.int i) (.bl b) k = (k (.int (i + b2i b))) := rfl
@[simp] theorem fAdd_2 {x : Str} {y : Str} {k : D → Prop} : fAdd (.str x) (.str y) k = (x.length + y.length ≤ sizeLine ∧ k (.str (x ++ y))) := rfl
@[simp] theorem fAdd_3 {xs : List D} {ys : List D} {k : D → Prop} : fAdd (.tup xs) (.tup ys) k = (xs.length + ys.length ≤ sizeLine ∧ k (.tup (xs ++ ys))) := rfl
@[simp] theorem fAdd_4 {xs : List D} {ys : List D} {k : D → Prop} : fAdd (.lst xs) (.lst ys) k = (xs.length + ys.length ≤ sizeLine ∧ k (.lst (xs ++ ys))) := rfl
@[simp] theorem fSub_0 {i : Int} {j : Int} {k : D → Prop} : fSub (.int i) (.int j) k = (k (.int (i - j))) := rfl
@[simp] theorem fMul_0 {i : Int} {j : Int} {k : D → Prop} : fMul (.int i) (.int j) k = (MulOk i j ∧ k (.int (i * j))) := rfl
@[simp] theorem fMul_1 {xs : List D} {j : Int} {k : D → Prop} : fMul (.lst xs) (.int j) k = (-(2 ^ 63) ≤ j ∧ j < 2 ^ 63 ∧ xs.length * j.toNat ≤ sizeLine ∧ k (.lst (List.replicate j.toNat xs).flatten)) := rfl
@[simp] theorem fMul_2 {xs : List D} {j : Int} {k : D → Prop} : fMul (.tup xs) (.int j) k = (xs ≠ [] ∧ 2 ≤ j ∧ j ≤ 1000 ∧ xs.length ≤ 1000 ∧ k (.tup (List.replicate j.toNat xs).flatten)) := rfl
@[simp] theorem fDiv_0 {i : Int} {j : Int} {k : D → Prop} : fDiv (.int i) (.int j) k = (DivOk i j ∧ k (.int (i / j))) := rfl
@[simp] theorem fMod_0 {i : Int} {j : Int} {k : D → Prop} : fMod (.int i) (.int j) k = (0 < j ∧ k (.int (i % j))) := rfl
@[simp] theorem fPow_0 {i : Int} {j : Int} {k : D → Prop} : fPow (.int i) (.int j) k = (CPow i j ∧ k (.int (i ^ j.toNat))) := rfl
@[simp] theorem fAddI_0 {i : Int} {j : Int} {k : D → Prop} : fAddI (.int i) (.int j) k = (k (.int (i + j))) := rfl
@[simp] theorem fMulI_0 {i : Int} {j : Int} {k : D → Prop} : fMulI (.int i) (.int j) k = (CMul i j ∧ k (.int (i * j))) := rfl
@[simp] theorem fLt_0 {i : Int} {j : Int} {k : D → Prop} : fLt (.int i) (.int j) k = (k (.bl (decide (i < j)))) := rfl
@[simp] theorem fLt_1 {i : Str} {j : Str} {k : D → Prop} : fLt (.str i) (.str j) k = (k (.bl (decide (i.cps.toList < j.cps.toList)))) := rfl
@[simp] theorem fLt_2 {xs : List D} {ys : List D} {k : D → Prop} : fLt (.tup xs) (.tup ys) k = (∃ ns ms, xs = ns.map D.int ∧ ys = ms.map D.int ∧ k (.bl (HT.lexLt ns ms))) := rfl
@[simp] theorem fCmp_0 {p : Int → Int → Bool} {i : Int} {j : Int} {k : D → Prop} : fCmp p (.int i) (.int j) k = (k (.bl (p i j))) := rfl
@[simp] theorem fLen_0 {y : Str} {k : D → Prop} : fLen [.str y] k = (y.length ≤ sizeLine ∧ k (.int y.length)) := rfl
@[simp] theorem fLen_1 {ds : List D} {k : D → Prop} : fLen [.lst ds] k = (k (.int ds.length)) := rfl
@[simp] theorem fLen_2 {ds : List D} {k : D → Prop} : fLen [.tup ds] k = (k (.int ds.length)) := rfl
@[simp] theorem fLen_3 {ks : List Key} {ds : List D} {k : D → Prop} : fLen [.dct ks ds] k = (k (.int ks.length)) := rfl
@[simp] theorem fAbs_0 {i : Int} {k : D → Prop} : fAbs [.int i] k = (k (.int (if i < 0 then -i else i))) := rfl
@[simp] theorem fInt_0 {i : Int} {k : D → Prop} : fInt [.int i] k = (k (.int i)) := rfl
@[simp] theorem fInt_1 {b : Bool} {k : D → Prop} : fInt [.bl b] k = (k (.int (if b then 1 else 0))) := rfl
@[simp] theorem fMin_0 {i : Int} {j : Int} {k : D → Prop} : fMin [.int i, .int j] k = (k (.int (if j < i then j else i))) := rfl
@[simp] theorem fMin_1 {xs : List D} {k : D → Prop} : fMin [.lst xs] k = (∃ ns : List Int, xs = ns.map D.int ∧ 0 < ns.length ∧ ∀ m, m ∈ ns → (∀ y, y ∈ ns → m ≤ y) → k (.int m)) := rfl
@[simp] theorem fMax_0 {i : Int} {j : Int} {k : D → Prop} : fMax [.int i, .int j] k = (k (.int (if j > i then j else i))) := rfl
@[simp] theorem fMax_1 {xs : List D} {k : D → Prop} : fMax [.lst xs] k = (∃ ns : List Int, xs = ns.map D.int ∧ 0 < ns.length ∧ ∀ m, m ∈ ns → (∀ y, y ∈ ns → y ≤ m) → k (.int m)) := rfl
@[simp] theorem fSum_0 {xs : List D} {k : D → Prop} : fSum [.lst xs] k = (∃ ns : List Int, xs = ns.map D.int ∧ k (.int ns.sum)) := rfl
@[simp] theorem fAny_0 {xs : List D} {k : D → Prop} : fAny [.lst xs] k = (∃ bs : List Bool, xs = bs.map D.bl ∧ k (.bl (bs.any (fun b => b)))) := rfl
@[simp] theorem fAll_0 {xs : List D} {k : D → Prop} : fAll [.lst xs] k = (∃ bs : List Bool, xs = bs.map D.bl ∧ k (.bl (bs.all (fun b => b)))) := rfl
@[simp] theorem fTuple_0 {xs : List D} {k : D → Prop} : fTuple [.lst xs] k = (k (.tup xs)) := rfl
@[simp] theorem fTuple_1 {xs : List D} {k : D → Prop} : fTuple [.tup xs] k = (k (.tup xs)) := rfl
@[simp] theorem fList_0 {xs : List D} {k : List D → Prop} : fList [.lst xs] k = (k xs) := rfl
@[simp] theorem fList_1 {xs : List D} {k : List D → Prop} : fList [.tup xs] k = (k xs) := rfl
@[simp] theorem fSorted_0 {xs : List D} {k : List D → Prop} : fSorted [.lst xs] k = (∃ ns : List Int, xs = ns.map D.int ∧ ∀ ns' : List Int, ns'.Perm ns → ns'.Pairwise (· ≤ ·) → k (ns'.map D.int)) := rfl
@[simp] theorem fIsi_0 {T : String} {x : D} {k : D → Prop} : fIsi [x, .raw (.ty T)] k = (x.tyN.isSome = true ∧ T ∈ tyNames ∧ k (.bl (x.isTy T))) := rfl
@[simp] theorem fIsi_1 {T : String} {T' : String} {x : D} {k : D → Prop} : fIsi [x, .tup [.raw (.ty T), .raw (.ty T')]] k = (x.tyN.isSome = true ∧ T ∈ tyNames ∧ T' ∈ tyNames ∧ k (.bl (x.isTy T || x.isTy T'))) := rfl
@[simp] theorem fIx_0 {xs : List D} {i : Int} {k : D → Prop} : fIx (.lst xs) (.int i) k = (∃ z, atI xs i = some z ∧ k z) := rfl
@[simp] theorem fIx_1 {xs : List D} {i : Int} {k : D → Prop} : fIx (.tup xs) (.int i) k = (∃ z, atI xs i = some z ∧ k z) := rfl
@[simp] theorem fIx_2 {y : Str} {i : Int} {k : D → Prop} : fIx (.str y) (.int i) k = (y.length ≤ sizeLine ∧ ∃ c, atI y.cps.toList i = some c ∧ k (.str ⟨#[c]⟩)) := rfl
@[simp] theorem fSl_0 {xs : List D} {lo : Option Int} {hi : Option Int} {k : D → Prop} : fSl (.lst xs) lo hi k = (k (.lst (cutD xs lo hi))) := rfl
@[simp] theorem fSl_1 {xs : List D} {lo : Option Int} {hi : Option Int} {k : D → Prop} : fSl (.tup xs) lo hi k = (k (.tup (cutD xs lo hi))) := rfl
@[simp] theorem fSl_2 {z : Str} {lo : Option Int} {hi : Option Int} {k : D → Prop} : fSl (.str z) lo hi k = (z.length ≤ sizeLine ∧ k (.str (cutS z lo hi))) := rfl
/-! ### values that are known -/
section
variable {x : D} {k : D → Prop} {xs ds : List D} {ks : List Key} {z : Str}
@[simp] theorem fInK_dct : fInK x (.dct ks ds) k = ∃ q, x.key? = some q ∧ k (.bl (valD (ks.zip ds) q).isSome) := rfl
@[simp] theorem fInK_lst : fInK x (.lst xs) k = (((x.flat = true ∧ xs.all D.flat = true) ∨ (x.plain = true ∧ D.plains xs = true ∧ x.dep ≤ 64 ∧ (D.lst xs).dep ≤ 64)) ∧ k (.bl (D.mem x xs))) := rfl
@[simp] theorem fInK_tup : fInK x (.tup xs) k = (x.flat = true ∧ xs.all D.flat = true ∧ k (.bl (D.mem x xs))) := rfl
@[simp] theorem fInK_str {c : Str} : fInK (.str c) (.str z) k = ∃ s, c = ⟨#[s]⟩ ∧ k (.bl (decide (s ∈ z.cps.toList))) := rfl
@[simp] theorem fNotInK_dct : fNotInK x (.dct ks ds) k = ∃ q, x.key? = some q ∧ k (.bl (!(valD (ks.zip ds) q).isSome)) := rfl
@[simp] theorem fNotInK_lst : fNotInK x (.lst xs) k = (((x.flat = true ∧ xs.all D.flat = true) ∨ (x.plain = true ∧ D.plains xs = true ∧ x.dep ≤ 64 ∧ (D.lst xs).dep ≤ 64)) ∧ k (.bl (!D.mem x xs))) := rfl
@[simp] theorem fNotInK_tup : fNotInK x (.tup xs) k = (x.flat = true ∧ xs.all D.flat = true ∧ k (.bl (!D.mem x xs))) := rfl
@[simp] theorem fNotInK_str {c : Str} : fNotInK (.str c) (.str z) k = ∃ s, c = ⟨#[s]⟩ ∧ k (.bl (!decide (s ∈ z.cps.toList))) := rfl
@[simp] theorem fIxK_dct : fIxK (.dct ks ds) x k = ∃ q z, x.key? = some q ∧ valD (ks.zip ds) q = some z ∧ k z := rfl
@[simp] theorem fIxK_lst : fIxK (.lst xs) x k = fIx (.lst xs) x k := rfl
@[simp] theorem fIxK_tup : fIxK (.tup xs) x k = fIx (.tup xs) x k := rfl
@[simp] theorem fIxK_str : fIxK (.str z) x k = fIx (.str z) x k := rfl
end
def truD (x : D) (k : Bool → Prop) : Prop := match x with
  | .non => k false
  | .bl b => k b
  | .int i => k (i != 0)
  | .str y => y.length ≤ sizeLine ∧ k ((y.length : Int) != 0)
  | .lst ds => k (!ds.isEmpty)
  | .tup ds => k (!ds.isEmpty)
  | .dct ks _ => k (!ks.isEmpty)
  | _ => False
section
variable {k : Bool → Prop} {d : DT} {E : EK} {ρ : Rho}
@[simp] theorem truD_non : truD .non k = k false := rfl
@[simp] theorem truD_bl {b : Bool} : truD (.bl b) k = k b := rfl
@[simp] theorem truD_int {i : Int} : truD (.int i) k = k (i != 0) := rfl
@[simp] theorem truD_lst {ds : List D} : truD (.lst ds) k = k (!ds.isEmpty) := rfl
@[simp] theorem truD_tup {ds : List D} : truD (.tup ds) k = k (!ds.isEmpty) := rfl
@[simp] theorem truD_dct {ks : List Key} {ds : List D} : truD (.dct ks ds) k = k (!ks.isEmpty) := rfl
@[simp] theorem truD_str {y : Str} : truD (.str y) k = (y.length ≤ sizeLine ∧ k ((y.length : Int) != 0)) := rfl
@[simp] theorem dTru_s {Q : Bool → Rho → Prop} : dTru d E ρ Q = d E ρ fun x ρ1 => truD x fun b => Q b ρ1 := by
  unfold dTru truD; rfl
def seqD (x : D) (k : List D → Prop) : Prop := match x with
  | .lst xs => k xs
  | .tup xs => k xs
  | .str z => k (signs z)
  | _ => False
@[simp] theorem seqD_lst {ds : List D} {k : List D → Prop} : seqD (.lst ds) k = k ds := rfl
@[simp] theorem seqD_tup {ds : List D} {k : List D → Prop} : seqD (.tup ds) k = k ds := rfl
@[simp] theorem seqD_str {z : Str} {k : List D → Prop} : seqD (.str z) k = k (signs z) := rfl
@[simp] theorem dSeqI_s {Q : List D → Rho → Prop} : dSeqI d E ρ Q = d E ρ fun x ρ1 => seqD x fun xs => Q xs ρ1 := by
  unfold dSeqI seqD; rfl
def zipA (vs : List D) (k : List D → Prop) : Prop := match vs with
  | [.lst xs, .lst ys] => k (zipD xs ys)
  | [.tup xs, .tup ys] => k (zipD xs ys)
  | [.lst xs, .tup ys] => k (zipD xs ys)
  | [.tup xs, .lst ys] => k (zipD xs ys)
  | _ => False
@[simp] theorem zipA_lt {xs ys : List D} {k : List D → Prop} : zipA [.lst xs, .tup ys] k = k (zipD xs ys) := rfl
@[simp] theorem zipA_tl {xs ys : List D} {k : List D → Prop} : zipA [.tup xs, .lst ys] k = k (zipD xs ys) := rfl
@[simp] theorem zipA_l {xs ys : List D} {k : List D → Prop} : zipA [.lst xs, .lst ys] k = k (zipD xs ys) := rfl
@[simp] theorem zipA_t {xs ys : List D} {k : List D → Prop} : zipA [.tup xs, .tup ys] k = k (zipD xs ys) := rfl
@[simp] theorem dZipI_s {r : DA} {Q : List D → Rho → Prop} : dZipI r E ρ Q = r E ρ fun vs ρ1 => zipA vs fun xs => Q xs ρ1 := by
  unfold dZipI zipA; rfl
def enumA (vs : List D) (k : List D → Prop) : Prop := match vs with
  | [.lst xs] => k (enumD xs)
  | _ => False
@[simp] theorem enumA_l {xs : List D} {k : List D → Prop} : enumA [.lst xs] k = k (enumD xs) := rfl
@[simp] theorem dEnumI_s {r : DA} {Q : List D → Rho → Prop} : dEnumI r E ρ Q = r E ρ fun vs ρ1 => enumA vs fun xs => Q xs ρ1 := by
  unfold dEnumI enumA; rfl
end

/-! ### comprehensions -/
def lcStep (b : DG) (t : DB) (e : DT) (x : D) (w : Rho) (K : Option D → Rho → Prop) : Prop := b x w fun ρ1 => t EX0 ρ1 fun c ρ2 => match c with
  | true => e EX0 ρ2 fun y ρ3 => K (some y) ρ3
  | false => K none ρ2
theorem lcStep_s {b : DG} {t : DB} {e : DT} {x : D} {w : Rho} {K : Option D → Rho → Prop} : lcStep b t e x w K = b x w fun ρ1 => t EX0 ρ1 fun c ρ2 => br c (e EX0 ρ2 fun y ρ3 => K (some y) ρ3) (K none ρ2) := by
  unfold lcStep; congr 1; funext ρ1; congr 1; funext c ρ2; cases c <;> simp
theorem back_same {ρ ρ1 ρ2 : Rho} : ∀ {vs : List Nat}, wipeR ρ1 vs = wipeR ρ2 vs → backR ρ ρ1 vs = backR ρ ρ2 vs := by
  intro vs h
  apply List.ext_getElem?
  intro j
  have hl : (backR ρ ρ1 vs).length = (backR ρ ρ2 vs).length := by
    rw [back_len, back_len, ← wipe_len (ρ := ρ1) vs, ← wipe_len (ρ := ρ2) vs, h]
  by_cases hj : j ∈ vs
  · by_cases hb : j < (backR ρ ρ2 vs).length
    · have e1 := List.getElem?_eq_getElem hb
      have e2 := List.getElem?_eq_getElem (show j < (backR ρ ρ1 vs).length by omega)
      rw [e1, e2, back_in hj e1, back_in hj e2]
    · rw [List.getElem?_eq_none (by omega), List.getElem?_eq_none (by omega)]
  · rw [back_at hj, back_at hj, ← wipeR_at (ρ := ρ1) hj, ← wipeR_at (ρ := ρ2) hj, h]
/-- a comprehension whose steps give what P lets -/
theorem lc_rel {b : DG} {t : DB} {e : DT} {vs : List Nat} {w : Rho} {k : List D → Rho → Prop} (P : D → Option D → Prop) :
    ∀ (its acc : List D) (ρ : Rho), wipeR ρ vs = w → (∀ x ∈ its, ∀ K : Option D → Rho → Prop, (∀ y ρ', P x y → wipeR ρ' vs = w → K y ρ') → lcStep b t e x w K) →
    (∀ (os : List (Option D)) (ρ2 : Rho), os.length = its.length → (∀ (i : Nat) (x : D), its[i]? = some x → ∃ o, os[i]? = some o ∧ P x o) → wipeR ρ2 vs = w → k (acc ++ os.filterMap id) ρ2) → lcGo b t e vs k its acc ρ
  | [], acc, ρ, hw, hs, h => by
    have := h [] ρ rfl (by intro i x e; simp at e) hw
    simpa [lcGo] using this
  | x :: its, acc, ρ, hw, hs, h => by
    show b x (wipeR ρ vs) _
    rw [hw]
    have key := hs x List.mem_cons_self (fun o ρ' => lcGo b t e vs k its (acc ++ o.toList) ρ') (fun y ρ' hp hw' => by
      refine lc_rel P its _ ρ' hw' (fun z hz => hs z (List.mem_cons_of_mem _ hz)) (fun os ρ2 hl ho h2 => ?_)
      have := h (y :: os) ρ2 (by simp [hl]) (fun i z e => by
        cases i with
        | zero => simp at e; subst e; exact ⟨y, rfl, hp⟩
        | succ i => simpa using ho i z (by simpa using e)) h2
      cases y with
      | none => simpa using this
      | some y => simpa using this)
    refine cast ?_ key
    unfold lcStep
    congr 1
    funext ρ1
    congr 1
    funext c ρ2
    cases c with
    | true => simp
    | false => simp
/-- .. that are each told -/
theorem lc_fun {b : DG} {t : DB} {e : DT} {vs : List Nat} {w : Rho} {k : List D → Rho → Prop} {ρ1 : Rho} {its : List D} (f : D → Option D) (hw : wipeR ρ1 vs = w) (hs : ∀ x ∈ its, ∀ K : Option D → Rho → Prop, (∀ ρ', wipeR ρ' vs = w → K (f x) ρ') → lcStep b t e x w K)
    (hq : ∀ ρ2, wipeR ρ2 vs = w → k (its.filterMap f) ρ2) : lcGo b t e vs k its [] ρ1 := by
  refine lc_rel (w := w) (fun x o => o = f x) its [] ρ1 hw (fun x hx K hK => hs x hx K fun ρ' h' => hK _ ρ' rfl h') (fun os ρ2 hl ho h2 => ?_)
  have e : os = its.map f := by
    apply List.ext_getElem?
    intro i
    by_cases hi : i < its.length
    · obtain ⟨o, h1, h2⟩ := ho i its[i] (List.getElem?_eq_getElem hi)
      rw [h1, h2, List.getElem?_map, List.getElem?_eq_getElem hi]; rfl
    · rw [List.getElem?_eq_none (by omega), List.getElem?_eq_none (by simp; omega)]
  subst e
  have z : (its.map f).filterMap id = its.filterMap f := by rw [List.filterMap_map]; rfl
  rw [List.nil_append, z]
  exact hq ρ2 h2
theorem lc_map {b : DG} {t : DB} {e : DT} {vs : List Nat} {w : Rho} {k : List D → Rho → Prop} {ρ1 : Rho} {its : List D} (f : D → D) (hw : wipeR ρ1 vs = w) (hs : ∀ x ∈ its, ∀ K : Option D → Rho → Prop, (∀ ρ', wipeR ρ' vs = w → K (some (f x)) ρ') → lcStep b t e x w K)
    (hq : ∀ ρ2, wipeR ρ2 vs = w → k (its.map f) ρ2) : lcGo b t e vs k its [] ρ1 :=
  lc_fun (fun x => some (f x)) hw hs (by rw [List.filterMap_eq_map']; exact hq)
/-! ### lists of numbers -/
abbrev ti (ns : List Int) : D := .tup (ns.map D.int)
abbrev li (ns : List Int) : D := .lst (ns.map D.int)
theorem ints_plain : ∀ ns : List Int, D.plains (ns.map D.int) = true
  | [] => rfl
  | n :: r => by rw [List.map_cons]; simp only [D.plains, D.plain, Bool.true_and]; exact ints_plain r
theorem ints_deps : ∀ ns : List Int, D.deps (ns.map D.int) = 0
  | [] => rfl
  | n :: r => by rw [List.map_cons]; simp only [D.deps, D.dep]; rw [ints_deps r]; rfl
@[simp] theorem ti_plain (ns : List Int) : (ti ns).plain = true := by simp only [ti, D.plain]; exact ints_plain ns
@[simp] theorem li_plain (ns : List Int) : (li ns).plain = true := by simp only [li, D.plain]; exact ints_plain ns
@[simp] theorem ti_dep (ns : List Int) : (ti ns).dep = 1 := by simp only [ti, D.dep]; rw [ints_deps ns]
@[simp] theorem li_dep (ns : List Int) : (li ns).dep = 1 := by simp only [li, D.dep]; rw [ints_deps ns]
theorem ints_eqbs : ∀ ns ms : List Int, D.eqbs (ns.map D.int) (ms.map D.int) = decide (ns = ms)
  | [], [] => rfl
  | [], _ :: _ => rfl
  | _ :: _, [] => rfl
  | n :: ns, m :: ms => by
    rw [List.map_cons, List.map_cons]
    simp only [D.eqbs, D.eqb]
    rw [ints_eqbs ns ms]
    by_cases h : n = m
    · subst h; simp
    · simp [h]
@[simp] theorem ti_eqb (ns ms : List Int) : D.eqb (ti ns) (ti ms) = decide (ns = ms) := by simp only [ti, D.eqb]; exact ints_eqbs ns ms
@[simp] theorem li_eqb (ns ms : List Int) : D.eqb (li ns) (li ms) = decide (ns = ms) := by simp only [li, D.eqb]; exact ints_eqbs ns ms
@[simp] theorem int_plain (i : Int) : (D.int i).plain = true := rfl
@[simp] theorem bl_plain (i : Bool) : (D.bl i).plain = true := rfl
@[simp] theorem non_plain : (D.non).plain = true := rfl
@[simp] theorem int_dep (i : Int) : (D.int i).dep = 0 := rfl
@[simp] theorem bl_dep (i : Bool) : (D.bl i).dep = 0 := rfl
@[simp] theorem non_dep : (D.non).dep = 0 := rfl
@[simp] theorem int_eqb (i j : Int) : D.eqb (.int i) (.int j) = decide (i = j) := by simp only [D.eqb]; rfl
@[simp] theorem bl_eqb (i j : Bool) : D.eqb (.bl i) (.bl j) = (i == j) := by simp only [D.eqb]
@[simp] theorem ints_flat (ns : List Int) : (ns.map D.int).all D.flat = true := by
  rw [List.all_eq_true]; intro x hx
  obtain ⟨i, _, rfl⟩ := List.mem_map.mp hx; rfl
theorem mem_ints (i : Int) : ∀ ns : List Int, D.mem (.int i) (ns.map D.int) = decide (i ∈ ns)
  | [] => rfl
  | n :: r => by
    have ih := mem_ints i r
    unfold D.mem at ih ⊢
    rw [List.map_cons, List.any_cons, ih, int_eqb]
    by_cases h : n = i
    · subst h; simp
    · have h' : ¬ i = n := fun z => h z.symm
      simp [h, h']
@[simp] theorem mem_ints' (i : Int) (ns : List Int) : D.mem (.int i) (ns.map D.int) = decide (i ∈ ns) := mem_ints i ns
/-! ### places -/
@[simp] theorem sIx_none (n d : Nat) : HT.sIx n d none = d := rfl
theorem sIx_nat {n d : Nat} {i : Int} (h : 0 ≤ i) : HT.sIx n d (some i) = min i.toNat n := by
  obtain ⟨k, rfl⟩ := Int.eq_ofNat_of_zero_le h
  exact HT.sIx_nat n d k
theorem cut_nat {xs : List D} {a b : Int} (ha : 0 ≤ a) (hb : 0 ≤ b) : cutD xs (some a) (some b) = (xs.drop a.toNat).take (b.toNat - a.toNat) := by
  unfold cutD
  rw [sIx_nat ha, sIx_nat hb]
  apply List.ext_getElem?
  intro i
  rw [List.getElem?_take, List.getElem?_take, List.getElem?_drop, List.getElem?_drop]
  by_cases h1 : a.toNat ≤ xs.length
  · rw [Nat.min_eq_left h1]
    by_cases h2 : i < b.toNat - a.toNat
    · rw [if_pos h2]
      by_cases h3 : i < min b.toNat xs.length - a.toNat
      · rw [if_pos h3]
      · rw [if_neg h3, List.getElem?_eq_none (by omega)]
    · rw [if_neg h2, if_neg (by omega)]
  · rw [Nat.min_eq_right (by omega : xs.length ≤ a.toNat), List.getElem?_eq_none (by omega), List.getElem?_eq_none (by omega)]
    split <;> split <;> rfl
theorem cut_to {xs : List D} {b : Int} (hb : 0 ≤ b) : cutD xs none (some b) = xs.take b.toNat := by
  unfold cutD
  rw [sIx_none, sIx_nat hb, List.drop_zero, Nat.sub_zero]
  by_cases h : b.toNat ≤ xs.length
  · rw [Nat.min_eq_left h]
  · rw [Nat.min_eq_right (by omega), List.take_of_length_le (Nat.le_refl _), List.take_of_length_le (by omega)]
theorem cut_from {xs : List D} {a : Int} (ha : 0 ≤ a) : cutD xs (some a) none = xs.drop a.toNat := by
  unfold cutD
  rw [sIx_none, sIx_nat ha]
  by_cases h : a.toNat ≤ xs.length
  · rw [Nat.min_eq_left h, List.take_of_length_le (by rw [List.length_drop]; omega)]
  · rw [Nat.min_eq_right (by omega), List.drop_of_length_le (Nat.le_refl _), List.drop_of_length_le (by omega)]
    simp
theorem cut_full {xs : List D} : cutD xs none none = xs := by
  unfold cutD
  simp
theorem atI_nat' {xs : List D} {i : Int} (h : 0 ≤ i) (hl : i.toNat < xs.length) (hz : xs.length ≤ sizeLine) : atI xs i = xs[i.toNat]? := by
  obtain ⟨k, rfl⟩ := Int.eq_ofNat_of_zero_le h
  exact (List.getElem?_eq_getElem (show k < xs.length from hl)).symm ▸ atI_nat (List.getElem?_eq_getElem (show k < xs.length from hl))
theorem atI_of {xs : List D} {k : Nat} {z : D} (h : xs[k]? = some z) : atI xs (k : Int) = some z := atI_nat h
end DL
/-! DL19: loops, places, the hand -/
namespace DL
open PySem PySem.Spec PyProof.Rows L2

/-! ### loops -/
theorem wh_inv {c : DB} {body : DS} {E : EK} {Kd : DEnds} (I : Nat → Rho → Prop)
    (step : ∀ n ρ (k : Rho → Prop), I n ρ → (∀ m ρ', n = m + 1 → I m ρ' → k ρ') → c E ρ fun t ρ1 => br t (body E { nx := k, ct := k, bk := Kd.nx, rt := Kd.rt } ρ1) (Kd.nx ρ1)) {n : Nat} {ρ : Rho} (h : I n ρ) : dWhile c body E Kd ρ := by
  have key : ∀ n ρ, I n ρ → whGo c body E Kd (n + 1) ρ := by
    intro n
    induction n with
    | zero =>
      intro ρ h
      have z := step 0 ρ (whGo c body E Kd 0) h (fun m ρ' e => by omega)
      unfold whGo
      refine cast ?_ z
      congr 1
      funext t ρ1
      cases t <;> simp
    | succ n ih =>
      intro ρ h
      have z := step (n + 1) ρ (whGo c body E Kd (n + 1)) h (fun m ρ' e hm => by
        have : m = n := by omega
        subst this
        exact ih ρ' hm)
      unfold whGo
      refine cast ?_ z
      congr 1
      funext t ρ1
      cases t <;> simp
  exact ⟨n + 1, key n ρ h⟩
theorem for_inv {b : DG} {body : DS} {E : EK} {Kd : DEnds} (I : List D → Rho → Prop) (step : ∀ x r ρ (k : Rho → Prop), I (x :: r) ρ → (∀ ρ', I r ρ' → k ρ') → b x ρ fun ρ1 => body E { nx := k, ct := k, bk := Kd.nx, rt := Kd.rt } ρ1)
    (done : ∀ ρ, I [] ρ → Kd.nx ρ) : ∀ {its : List D} {ρ : Rho}, I its ρ → forGo b body E Kd its ρ
  | [], ρ, h => done ρ h
  | x :: r, ρ, h => step x r ρ _ h fun ρ' h' => for_inv I step done h'
theorem putD_new {kds : KD} {k : Key} {d : D} (h : k ∉ kds.map (·.1)) : putD kds k d = kds ++ [(k, d)] := by
  unfold putD
  rw [if_neg]
  rw [List.any_eq_true]
  rintro ⟨x, hx, e⟩
  exact h (List.mem_map.mpr ⟨x, hx, of_decide_eq_true e⟩)
theorem dc_map {b : DG} {ek e : DT} {vs : List Nat} {w : Rho} {k : KD → Rho → Prop} {ρ1 : Rho} {its : List D} (kf : D → Key) (vf : D → D) (hw : wipeR ρ1 vs = w) (hnd : (its.map kf).Nodup)
    (ht : ∀ x ∈ its, ∀ K : Key → D → Rho → Prop, (∀ ρ', wipeR ρ' vs = w → K (kf x) (vf x) ρ') → b x w fun ρ2 => ek EX0 ρ2 fun y ρ3 => e EX0 ρ3 fun z ρ4 => ∃ q, y.key? = some q ∧ K q z ρ4)
    (hq : ∀ ρ2, wipeR ρ2 vs = w → k (its.map fun x => (kf x, vf x)) ρ2) : dcGo b dYes ek e vs k its [] ρ1 := by
  have key : ∀ (its : List D) (acc : KD) (ρ : Rho), wipeR ρ vs = w → ((acc.map (·.1)) ++ its.map kf).Nodup → (∀ x ∈ its, ∀ K : Key → D → Rho → Prop, (∀ ρ', wipeR ρ' vs = w → K (kf x) (vf x) ρ') → b x w fun ρ2 => ek EX0 ρ2 fun y ρ3 => e EX0 ρ3 fun z ρ4 => ∃ q, y.key? = some q ∧ K q z ρ4) →
      (∀ ρ2, wipeR ρ2 vs = w → k (acc ++ its.map fun x => (kf x, vf x)) ρ2) → dcGo b dYes ek e vs k its acc ρ := by
    intro its
    induction its with
    | nil => intro acc ρ hw _ _ h; simpa [dcGo] using h ρ hw
    | cons x its ih =>
      intro acc ρ hw hnd hs h
      show b x (wipeR ρ vs) _
      rw [hw]
      exact hs x List.mem_cons_self (fun q z ρ' => dcGo b dYes ek e vs k its (putD acc q z) ρ') (fun ρ' hw' => by
        have hnew : kf x ∉ acc.map (·.1) := by
          rw [List.map_cons] at hnd
          have := (List.nodup_append.mp hnd).2.2
          intro hm
          exact this _ hm _ List.mem_cons_self rfl
        rw [putD_new hnew]
        refine ih _ ρ' hw' ?_ (fun y hy => hs y (List.mem_cons_of_mem _ hy)) (fun ρ2 h2 => ?_)
        · rw [List.map_append, List.append_assoc]
          simpa using hnd
        · rw [List.append_assoc]
          simpa using h ρ2 h2)
  exact key its [] ρ1 hw (by simpa using hnd) ht (by simpa using hq)
theorem valD_ints {c : D} (j : Int) : ∀ ns : List Int, (valD (ns.map fun i => (Sum.inl i, c)) (.inl j)).isSome = decide (j ∈ ns)
  | [] => rfl
  | n :: r => by
    have ih := valD_ints (c := c) j r
    unfold valD at ih ⊢
    rw [List.map_cons, List.find?_cons]
    by_cases h : n = j
    · subst h; simp
    · have h1 : decide ((Sum.inl n : Key) = .inl j) = false := decide_eq_false fun z => h (Sum.inl.inj z)
      rw [h1]
      rw [ih]
      have h' : ¬ j = n := fun z => h z.symm
      simp [h']
theorem map_int_eq : ∀ {ns ms : List Int}, ns.map D.int = ms.map D.int ↔ ns = ms := by
  intro ns ms
  constructor
  · intro h
    have z : (ns.map D.int).map (fun x => match x with | .int i => i | _ => 0) = (ms.map D.int).map (fun x => match x with | .int i => i | _ => 0) := by rw [h]
    rw [List.map_map, List.map_map] at z
    simpa [Function.comp_def] using z
  · intro h; rw [h]
@[simp] theorem map_int_inj {ns ms : List Int} : (ns.map D.int = ms.map D.int) = (ns = ms) := propext map_int_eq
theorem lst_lt {n : Nat} (h : n ≤ 100000) : n < sizeLine := by rw [sizeLine_eq]; omega
/-! ### places -/
theorem ixN_in {n : Nat} {i : Int} (h : 0 ≤ i) (h2 : i < n) : ixN n i = some i.toNat := by
  unfold ixN; rw [if_pos h, if_pos h2]
theorem ixN_n {n j : Nat} (h : j < n) : ixN n (j : Int) = some j := by
  rw [ixN_in (by omega) (by omega)]; simp
theorem seq_in {n : Nat} {i : Int} (h : 0 ≤ i) (h2 : i < n) : seqIndex? i n = some i.toNat := by
  unfold seqIndex?
  simp only [if_neg (show ¬ i < 0 by omega)]
  rw [if_pos (by simp; omega)]
theorem atI_in {α : Type} {xs : List α} {i : Int} (h : 0 ≤ i) (h2 : i < xs.length) : atI xs i = xs[i.toNat]? := by
  unfold atI; rw [ixN_in h h2]; rfl
theorem atI_neg1 {α : Type} {xs : List α} (h : xs ≠ []) : atI xs (-1) = some (xs.getLast h) := by
  have e := List.dropLast_concat_getLast h
  conv => lhs; rw [← e]
  exact atI_last _ _
theorem can_none {P : Program} {w : World} {K : PySem.W.Frag} {mg : Str → Option Value} {base : Heap} {k : Nat} {x : Str} {st : Stmt} {ps : List Str} {T : TSp} {γ : Bool} (F : Has K mg x st ps) (h : ∀ ds R E, ¬ T ds R E) : Can γ P w K mg base k x ps (spP K T) := by
  obtain ⟨f, fd, h1, h2, h3, _⟩ := F.ex
  exact ⟨f, fd, h1, h2, h3, fun vs H Q E ⟨S, ds, _, _, _, t⟩ => (h _ _ _ t).elim, fun A outer s H args us vs Q E _ _ _ _ _ ⟨S, ds, _, _, _, t⟩ => (h _ _ _ t).elim⟩
theorem rng_z {n : Int} : rng 0 n = (List.range n.toNat).map fun i : Nat => (i : Int) := by
  unfold rng
  rw [Int.sub_zero]
  simp
theorem rng_nat (n : Nat) : rng 0 n = (List.range n).map fun i : Nat => (i : Int) := by
  unfold rng
  rw [Int.sub_zero]
  simp
theorem rgOk_s {n : Int} (h : 0 ≤ n) (h2 : n ≤ 100000) : RgOk 0 n := .of_le (by omega) (by omega) (by omega) h
end DL
/-! DL20: comprehensions over things told by a list, sets of numbers -/
namespace DL
open PySem PySem.Spec PyProof.Rows L2
section
variable {α : Type} {b : DG} {t : DB} {e ek : DT} {vs : List Nat} {w : Rho} {k : List D → Rho → Prop} {kd : KD → Rho → Prop} {ρ1 : Rho}
theorem lcGo_cons {x : D} {its acc : List D} {ρ : Rho} (h : lcStep b t e x (wipeR ρ vs) fun o ρ' => lcGo b t e vs k its (acc ++ o.toList) ρ') : lcGo b t e vs k (x :: its) acc ρ := by
  show b x (wipeR ρ vs) _
  refine cast ?_ h
  unfold lcStep
  congr 1
  funext ρ1
  congr 1
  funext c ρ2
  cases c <;> simp
theorem lc_opt' (g : α → D) (f : α → Option D) : ∀ (xs : List α) (acc : List D) (ρ1 : Rho), wipeR ρ1 vs = w → (∀ a ∈ xs, ∀ K : Option D → Rho → Prop, (∀ ρ', wipeR ρ' vs = w → K (f a) ρ') → lcStep b t e (g a) w K) →
    (∀ ρ2, wipeR ρ2 vs = w → k (acc ++ xs.filterMap f) ρ2) → lcGo b t e vs k (xs.map g) acc ρ1
  | [], acc, ρ1, hw, _, hq => by simpa [lcGo] using hq ρ1 hw
  | a :: xs, acc, ρ1, hw, hs, hq => by
    refine lcGo_cons ?_
    rw [hw]
    refine hs a List.mem_cons_self _ fun ρ' h' => ?_
    refine lc_opt' g f xs _ ρ' h' (fun z hz => hs z (List.mem_cons_of_mem _ hz)) fun ρ2 h2 => ?_
    have := hq ρ2 h2
    rw [List.filterMap_cons] at this
    cases z : f a with
    | none => rw [z] at this; simpa using this
    | some y => rw [z] at this; simpa using this
/-- [e for x in its if t], its told as xs.map g -/
theorem lc_opt (xs : List α) (g : α → D) (f : α → Option D) (hw : wipeR ρ1 vs = w) (hs : ∀ a ∈ xs, ∀ K : Option D → Rho → Prop, (∀ ρ', wipeR ρ' vs = w → K (f a) ρ') → lcStep b t e (g a) w K)
    (hq : ∀ ρ2, wipeR ρ2 vs = w → k (xs.filterMap f) ρ2) : lcGo b t e vs k (xs.map g) [] ρ1 := lc_opt' g f xs [] ρ1 hw hs (by simpa using hq)
theorem lc_all (xs : List α) (g f : α → D) (hw : wipeR ρ1 vs = w) (hs : ∀ a ∈ xs, ∀ K : Option D → Rho → Prop, (∀ ρ', wipeR ρ' vs = w → K (some (f a)) ρ') → lcStep b t e (g a) w K)
    (hq : ∀ ρ2, wipeR ρ2 vs = w → k (xs.map f) ρ2) : lcGo b t e vs k (xs.map g) [] ρ1 := lc_opt xs g (fun a => some (f a)) hw hs (by rw [List.filterMap_eq_map']; exact hq)
theorem lc_flt (xs : List α) (g f : α → D) (p : α → Bool) (hw : wipeR ρ1 vs = w) (hs : ∀ a ∈ xs, ∀ K : Option D → Rho → Prop, (∀ ρ', wipeR ρ' vs = w → K (if p a = true then some (f a) else none) ρ') → lcStep b t e (g a) w K)
    (hq : ∀ ρ2, wipeR ρ2 vs = w → k ((xs.filter p).map f) ρ2) : lcGo b t e vs k (xs.map g) [] ρ1 := by
  refine lc_opt xs g _ hw hs ?_
  have e : xs.filterMap (fun a => if p a = true then some (f a) else none) = (xs.filter p).map f := by
    rw [← List.filterMap_eq_map', ← List.filterMap_eq_filter, List.filterMap_filterMap]
    congr 1
    funext a
    by_cases h : p a = true
    · simp [h, Option.guard]
    · simp [h, Option.guard]
  rw [e]; exact hq
/-- {x: c for x in its}, numbers that are all unlike -/
theorem dc_ints {ns : List Int} (c : D) (hw : wipeR ρ1 vs = w) (hnd : ns.Nodup) (ht : ∀ i ∈ ns, ∀ K : Key → D → Rho → Prop, (∀ ρ', wipeR ρ' vs = w → K (.inl i) c ρ') → b (.int i) w fun ρ2 => ek EX0 ρ2 fun y ρ3 => e EX0 ρ3 fun z ρ4 => ∃ q, y.key? = some q ∧ K q z ρ4)
    (hq : ∀ ρ2, wipeR ρ2 vs = w → kd (ns.map fun i => (.inl i, c)) ρ2) : dcGo b dYes ek e vs kd (ns.map D.int) [] ρ1 := by
  refine dc_map (fun x => match x with | .int i => .inl i | _ => .inl 0) (fun _ => c) hw ?_ ?_ ?_
  · rw [List.map_map]
    unfold List.Nodup at *
    rw [List.pairwise_map]
    exact hnd.imp fun {a b} hab z => hab (Sum.inl.inj z)
  · intro x hx K hK
    obtain ⟨i, hi, rfl⟩ := List.mem_map.mp hx
    exact ht i hi K hK
  · intro ρ2 h2
    have := hq ρ2 h2
    rw [List.map_map]
    exact this
end
/-- numbers as a dict's keys -/
def setI (ns : List Int) (c : D) : D := .dct (ns.map Sum.inl) (ns.map fun _ => c)
@[simp ↓ high] theorem dct_setI {ns : List Int} {c : D} : D.dct ((ns.map fun i => ((Sum.inl i : Key), c)).map (fun x => x.1)) ((ns.map fun i => ((Sum.inl i : Key), c)).map (fun x => x.2)) = setI ns c := by
  unfold setI
  rw [List.map_map, List.map_map]; rfl
theorem zip_setI (ns : List Int) (c : D) : (ns.map (Sum.inl : Int → Key)).zip (ns.map fun _ => c) = ns.map fun i => (Sum.inl i, c) := by
  induction ns with
  | nil => rfl
  | cons n r ih => simp [ih]
theorem valD_ints' (ns : List Int) (c : D) (j : Int) : (valD (ns.map fun i => ((Sum.inl i : Key), c)) (.inl j)).isSome = decide (j ∈ ns) := valD_ints j ns
@[simp high] theorem in_setI {ns : List Int} {c : D} {j : Int} {k : D → Prop} : fInK (.int j) (setI ns c) k = k (.bl (decide (j ∈ ns))) := by
  have e : fInK (.int j) (setI ns c) k = ∃ q, D.key? (.int j) = some q ∧ k (.bl (valD ((ns.map (Sum.inl : Int → Key)).zip (ns.map fun _ => c)) q).isSome) := rfl
  rw [e, zip_setI]
  apply propext
  constructor
  · rintro ⟨q, h1, h2⟩
    cases h1
    rw [valD_ints'] at h2
    exact h2
  · intro h
    exact ⟨_, rfl, by rw [valD_ints']; exact h⟩
@[simp high] theorem notIn_setI {ns : List Int} {c : D} {j : Int} {k : D → Prop} : fNotInK (.int j) (setI ns c) k = k (.bl (decide (j ∉ ns))) := by
  have e : fNotInK (.int j) (setI ns c) k = ∃ q, D.key? (.int j) = some q ∧ k (.bl (!(valD ((ns.map (Sum.inl : Int → Key)).zip (ns.map fun _ => c)) q).isSome)) := rfl
  have e2 : (decide (j ∉ ns)) = !decide (j ∈ ns) := by simp
  rw [e, zip_setI, e2]
  apply propext
  constructor
  · rintro ⟨q, h1, h2⟩
    cases h1
    rw [valD_ints'] at h2
    exact h2
  · intro h
    exact ⟨_, rfl, by rw [valD_ints']; exact h⟩
@[simp high] theorem len_setI {ns : List Int} {c : D} {k : D → Prop} : fLen [setI ns c] k = k (.int ns.length) := by
  unfold setI
  simp
/-- the cells behind a comprehension -/
theorem back_is {ρ ρ1 ρ2 ρ3 : Rho} {vs : List Nat} (h : wipeR ρ2 vs = wipeR ρ1 vs) (e : backR ρ ρ1 vs = ρ3) : backR ρ ρ2 vs = ρ3 := by rw [back_same h, e]
theorem all_true {α : Type} {xs : List α} {k : D → Prop} (h : k (.bl true)) : ∃ bs : List Bool, xs.map (fun _ => D.bl true) = bs.map D.bl ∧ k (.bl (bs.all fun b => b)) := by
  refine ⟨xs.map fun _ => true, by rw [List.map_map]; rfl, ?_⟩
  have e : ((xs.map fun _ => true).all fun b => b) = true := by rw [List.all_eq_true]; intro b hb; obtain ⟨_, _, rfl⟩ := List.mem_map.mp hb; rfl
  rw [e]; exact h
/-! ### mixed -/
def D.toI : D → Int
  | .int i => i
  | _ => 0
theorem toI_map (ns : List Int) : (ns.map D.int).map D.toI = ns := by
  rw [List.map_map]
  have : D.toI ∘ D.int = id := by funext i; rfl
  rw [this, List.map_id]
theorem perm_ints {ys : List D} {ms : List Int} (h : ys.Perm (ms.map D.int)) : ∃ ns : List Int, ys = ns.map D.int ∧ ns.Perm ms := by
  refine ⟨ys.map D.toI, ?_, ?_⟩
  · rw [List.map_map]
    have e : ∀ y ∈ ys, (D.int ∘ D.toI) y = y := by
      intro y hy
      obtain ⟨i, _, rfl⟩ := List.mem_map.mp (h.mem_iff.mp hy)
      rfl
    conv => lhs; rw [← List.map_id ys]
    exact (List.map_congr_left fun y hy => (e y hy).symm)
  · have := h.map D.toI
    rwa [toI_map] at this
theorem rng_nodup (n : Int) : (rng 0 n).Nodup := by
  rw [rng_z]
  unfold List.Nodup
  rw [List.pairwise_map]
  refine List.Pairwise.imp ?_ (List.nodup_range (n := n.toNat))
  intro a b h z
  exact h (by omega)
theorem rng_mem {n i : Int} : i ∈ rng 0 n ↔ 0 ≤ i ∧ i < n := by
  rw [rng_z, List.mem_map]
  constructor
  · rintro ⟨k, hk, rfl⟩
    have := List.mem_range.mp hk
    omega
  · rintro ⟨h1, h2⟩
    exact ⟨i.toNat, List.mem_range.mpr (by omega), by omega⟩
theorem erase_perm {α : Type} : ∀ {rs : List α} {j : Nat} {z : α}, rs[j]? = some z → ([z] ++ rs.eraseIdx j).Perm rs
  | [], _, _, h => by simp at h
  | x :: rs, 0, z, h => by
    simp at h; subst h; exact List.Perm.refl _
  | x :: rs, j + 1, z, h => by
    have ih := erase_perm (rs := rs) (j := j) (z := z) (by simpa using h)
    exact (List.Perm.swap x z _).trans (List.Perm.cons x ih)
theorem perm_take {α : Type} {rs fs xs : List α} {j : Nat} {z : α} (hp : (fs ++ rs).Perm xs) (hz : rs[j]? = some z) : ((fs ++ [z]) ++ rs.eraseIdx j).Perm xs := by
  refine List.Perm.trans ?_ hp
  rw [List.append_assoc]
  refine List.Perm.append_left fs ?_
  exact erase_perm hz
/-! ### the drawing hand -/
theorem mulR {i j : Int} (h1 : -(2 ^ 64) < j) (h2 : j < 2 ^ 64) : MulOk i j := .inl (.inr ⟨h1, h2⟩)
theorem mulL {i j : Int} (h1 : -(2 ^ 64) < i) (h2 : i < 2 ^ 64) : MulOk i j := .inl (.inl ⟨h1, h2⟩)
theorem divS {i j : Int} (h1 : 0 < j) (h2 : j < 1073741824) : DivOk i j := .inl ⟨h1, h2⟩
theorem divB {i j : Int} (h1 : 0 < j) (h2 : j < 2 ^ 200) : DivOk i j := by
  refine .inr ⟨h1, ?_⟩
  have h3 : j.natAbs < 2 ^ 200 := by omega
  have h4 : j.natAbs ≠ 0 := by omega
  have := (Nat.log2_lt h4).mpr h3
  omega
theorem hInv_of {ms : List Int} {a b c e : Int} (h1 : ∀ m ∈ ms, 0 ≤ m) (h2 : 0 ≤ a) (h3 : 0 ≤ b) (h4 : 0 ≤ c) (h5 : 0 ≤ e) : hInv [.lst (ms.map D.int), .int a, .int b, .int c, .int e] := ⟨ms, a, b, c, e, rfl, h1, h2, h3, h4, h5⟩
end DL
/-! DL21: an own list walked -/
namespace DL
open PySem PySem.Spec PyProof.Rows L2
/-- what a walk over the own list at p gives, as long as it stands for ds -/
def GoodO (K : PySem.W.Frag) (J : It) (p : Addr) (ds its : List D) : Prop := ∀ (k : Nat) S' H' xs, H' p = some (.lst xs) → Reps K S' xs ds → (its.length ≤ k → J.stop k H') ∧ (k < its.length → J.go k H') ∧
  ∀ x H'', k < its.length → J.yld k H' x H'' → ∃ d, its[k]? = some d ∧ ((H'' = H' ∧ Rep K S' x d) ∨ ∃ T xs' ds', x = .ref T ∧ H' T = none ∧ H'' = upd H' T (.tup xs') ∧ d = .tup ds' ∧ Reps K S' xs' ds')
theorem goodO_list {K : PySem.W.Frag} {p : Addr} {ds : List D} : GoodO K (Itl K p) p ds ds := by
  intro k S' H' xs h r
  have hq : SqL K H' p xs := SqL.of h
  refine ⟨fun z => ⟨xs, hq, by rw [r.length]; exact z⟩, fun z => ⟨xs, xs[k]'(by rw [r.length]; exact z), hq, List.getElem?_eq_getElem _⟩, fun x H'' z y => ?_⟩
  obtain ⟨e, y⟩ := y
  obtain ⟨d, h1, h2⟩ := r.get (y xs hq)
  exact ⟨d, h1, .inl ⟨e, h2⟩⟩
theorem goodO_enum {K : PySem.W.Frag} {p : Addr} {ds : List D} : GoodO K (Ite K p) p ds (enumD ds) := by
  intro k S' H' xs h r
  have hq : SqL K H' p xs := SqL.of h
  have l1 := r.length
  rw [enumD_len]
  refine ⟨fun z => ⟨xs, hq, by omega⟩, fun z => ⟨xs, _, hq, List.getElem?_eq_getElem (show k < xs.length by omega)⟩, fun x H'' z y => ?_⟩
  obtain ⟨T, u, rfl, hT, rfl, f1⟩ := y
  obtain ⟨d, a1, a2⟩ := r.get (f1 xs hq)
  exact ⟨_, enumD_get a1, .inr ⟨T, [.int (k : Nat), u], [.int (k : Nat), d], rfl, hT, rfl, rfl, .cons (.int _) (.cons a2 .nil)⟩⟩
/-- the walk of the own list at the name i -/
inductive OwnIt (X : Cx) (i : Nat) (tg iter : Expr) : (List D → List D) → Prop where
  | mk (f : List D → List D) (J : Addr → It) (hJ : ∀ p ds, GoodO X.K (J p) p ds (f ds)) (hl : ∀ ds, (f ds).length = ds.length) (h : PI X tg iter fun σ H R => ∃ p xs, σ[i]? = some (some (.ref p)) ∧ SqL X.K H p xs ∧ R (J p) H) : OwnIt X i tg iter f
@[simp] def chkT (i : Nat) (p : Addr) (ds : List D) (t : DB) : DB := fun E ρ Q => t E ρ fun c ρ2 => (c = false → ρ2[i]? = some (.own p ds)) ∧ Q c ρ2
@[simp] def chkE (i : Nat) (p : Addr) (ds : List D) (e : DT) : DT := fun E ρ Q => e E ρ fun y ρ2 => ρ2[i]? = some (.own p ds) ∧ Q y ρ2
def dLcN (f : List D → List D) (i : Nat) (b : DG) (t : DB) (e : DT) (vs : List Nat) : DF := fun _ ρ Q => ∃ p ds, ρ[i]? = some (.own p ds) ∧ ds.length ≤ sizeLine ∧ lcGo b (chkT i p ds t) (chkE i p ds e) vs (fun ds' ρ2 => Q ds' (backR ρ ρ2 vs)) (f ds) [] ρ
section
variable {X : Cx} {RK : Res → Prop} {W : WX} {pos p1 p2 tpos : Pos} {elt tg iter : Expr} {b : DG} {t : DB} {e : DT} {vs : List Nat} {x : Str} {elts : List Expr} {kk : Nat} {f : List D → List D} {i : Nat}
theorem oi_list (i : Nat) (hN : X.N[i]? = some x := by rfl) (hv : Vis X.env.scope x := by first | exact Or.inl rfl | exact Or.inr (Or.inl rfl) | exact Or.inr (Or.inr rfl)) (hd : (x == ("__debug__" : Str)) = false := by decide) (hcd : (x == ("__classdict__" : Str)) = false := by decide) :
    OwnIt X i tg (.Name x p1) fun ds => ds := by
  refine .mk _ (fun p => Itl X.K p) (fun p ds => goodO_list) (fun _ => rfl) (pi_weak (pi_seq (pe_var hN hv hd hcd)) ?_)
  rintro σ H R ⟨p, xs, h1, h2, h3⟩
  exact ⟨_, h1, .inl ⟨p, xs, rfl, h2, h3⟩⟩
theorem oi_enum (i : Nat) (hm : X.mg "enumerate" = none) (hg : Gl X "enumerate" := by rfl) (hN : X.N[i]? = some x := by rfl) (hv : Vis X.env.scope x := by first | exact Or.inl rfl | exact Or.inr (Or.inl rfl) | exact Or.inr (Or.inr rfl)) (hd : (x == ("__debug__" : Str)) = false := by decide)
    (hcd : (x == ("__classdict__" : Str)) = false := by decide) (hs : starEach [.Name x p1] X.env = [(false, eval (.Name x p1) X.env)] := by rfl) : OwnIt X i (.Tuple elts kk tpos) (.Call (.Name "enumerate" p2) [.Name x p1] [] pos) enumD := by
  refine .mk _ (fun p => Ite X.K p) (fun p ds => goodO_enum) (fun ds => enumD_len ds) (pi_weak (pi_enum hg hm (pa_cons (pe_var hN hv hd hcd) pa_nil hs) hs) ?_)
  rintro σ H R ⟨p, xs, h1, h2, h3⟩
  exact ⟨_, h1, p, xs, rfl, h2, h3⟩
theorem lift_lcN {J : It} {p : Addr} {ds0 its : List D} (hi : i ∉ vs) (hJ : GoodO X.K J p ds0 its) {g : G} {S1 H1 : Hp} {σ : L2.St} {ρ1 : Rho} {k : List D → Rho → Prop} {Qh : VK} (R1 : ER X.K RK g S1 H1 σ ρ1) (h0 : ρ1[i]? = some (.own p ds0)) (hsz : its.length ≤ sizeLine)
    (q1 : lcGo b (chkT i p ds0 t) (chkE i p ds0 e) vs k its [] ρ1)
    (hq : ∀ q xs H' S' ρ2 ds, ER X.K RK g S' H' σ (backR ρ1 ρ2 vs) → Same S1 S' → H' q = some (.lst xs) → S' q = none → g.He q = none → (∀ j, ownAt (backR ρ1 ρ2 vs) j ≠ some q) → Reps X.K S' xs ds → k ds ρ2 → Qh (.ref q) H') :
    ∀ D, H1 D = none → ∃ W : Nat → Nat → Hp → Prop, (∃ m, W 0 m (upd H1 D (.lst []))) ∧ ∀ i m H, W i m H →
      (J.stop i H ∧ Qh (.ref D) H) ∨ (J.go i H ∧ ∃ Nx : Hp → Prop, (∀ H', Nx H' → ∃ m', m' < m ∧ W (i + 1) m' H') ∧ ∀ x H', J.yld i H x H' → liftGv X.K RK vs b x (L2.wipe σ vs) H' fun σ2 H2 => L2.wipe σ2 vs = L2.wipe σ vs ∧ liftB X.K RK W0 t σ2 H2 fun c H3 =>
        if c = true then liftE X.K RK W0 e σ2 H3 fun y H4 => ∃ acc, H4 D = some (.lst acc) ∧ acc.length < sizeLine ∧ Nx (upd H4 D (.lst (acc ++ [y]))) else Nx H3) := by
  intro q hp
  obtain ⟨f1, f2, f3, f4⟩ := R1.fresh hp
  have f0 : g.S0 q = none := R1.s0.free f2
  have Rw := R1.wipe vs
  have fw := (Rw.fresh hp).2.2.2
  refine ⟨fun j m H' => m = its.length - j ∧ j ≤ its.length ∧ ∃ S' ρ' xs ds, ER X.K RK g S' H' (L2.wipe σ vs) (wipeR ρ' vs) ∧ Same S1 S' ∧ H' q = some (.lst xs) ∧ S' q = none ∧ (∀ l, ownAt (wipeR ρ' vs) l ≠ some q) ∧ Reps X.K S' xs ds ∧ ds.length ≤ j ∧ ρ'[i]? = some (.own p ds0) ∧
    lcGo b (chkT i p ds0 t) (chkE i p ds0 e) vs k (its.drop j) ds ρ', ⟨its.length, rfl, Nat.zero_le _, S1, ρ1, [], [], Rw.alloc0 hp, Same.refl S1, upd_same, f2, fw, .nil, Nat.le_refl _, h0, q1⟩, ?_⟩
  rintro j m H' ⟨rfl, hil, S', ρ', xs, ds, R', e', hH, hS, hn, rp, hds, hown, q'⟩
  have hw0 : (wipeR ρ' vs)[i]? = some (.own p ds0) := by rw [wipeR_at hi]; exact hown
  obtain ⟨_, o2, o3, ys, o4, o5⟩ := R'.cell i _ hw0
  by_cases hlt : j < its.length
  · refine .inr ⟨(hJ j S' H' ys o4 o5).2.1 hlt, fun H2 => ∃ S' ρ' xs ds, ER X.K RK g S' H2 (L2.wipe σ vs) (wipeR ρ' vs) ∧ Same S1 S' ∧ H2 q = some (.lst xs) ∧ S' q = none ∧ (∀ l, ownAt (wipeR ρ' vs) l ≠ some q) ∧ Reps X.K S' xs ds ∧ ds.length ≤ j + 1 ∧ ρ'[i]? = some (.own p ds0) ∧
      lcGo b (chkT i p ds0 t) (chkE i p ds0 e) vs k (its.drop (j + 1)) ds ρ', fun H2 z => ⟨its.length - (j + 1), by omega, rfl, hlt, z⟩, fun x H2 y => ?_⟩
    have Rp := R'.pin hH hS f1 hn
    obtain ⟨d, hd, hcase⟩ := (hJ j S' H' ys o4 o5).2.2 x H2 hlt y
    have hyl : ∃ S2, ER X.K RK (g.pin q (.lst xs)) S2 H2 (L2.wipe σ vs) (wipeR ρ' vs) ∧ Same S' S2 ∧ Rep X.K S2 x d := by
      rcases hcase with ⟨rfl, r⟩ | ⟨T, xs', ds', rfl, hT, rfl, rfl, r⟩
      · exact ⟨S', Rp, Same.refl S', r⟩
      · obtain ⟨R2, e2⟩ := Rp.alloc (o := .tup xs') hT
        exact ⟨_, R2, e2, .tup (.inl upd_same) (r.up e2)⟩
    obtain ⟨S2, R2, e2, r2⟩ := hyl
    have hdrop : its.drop j = d :: its.drop (j + 1) := by
      rw [List.drop_eq_getElem_cons hlt]
      rw [List.getElem?_eq_getElem hlt] at hd
      cases hd; rfl
    rw [hdrop] at q'
    refine ⟨g.pin q (.lst xs), S2, wipeR ρ' vs, d, _, R2, r2, q', fun σ3 ρ3 R3 o3 q3 => ?_⟩
    have hw : L2.wipe σ3 vs = L2.wipe σ vs := (wipe_eq o3).trans wipe_wipe
    refine ⟨hw, g.pin q (.lst xs), S2, ρ3, _, EX0, R3, q3, fun c H4 S4 ρ4 R4 e4 q4 => ?_, exc0⟩
    obtain ⟨q4a, q4⟩ := q4
    cases c with
    | true =>
      refine iteT ?_
      refine ⟨g.pin q (.lst xs), S4, ρ4, _, EX0, R4, q4, fun v H5 S5 ρ5 z R5 e5 r5 q5 => ?_, exc0⟩
      obtain ⟨q5a, q5⟩ := q5
      obtain ⟨R6, h6, s6, n6⟩ := R5.unpin f1 f0 R1.heok
      have n7 : ∀ j, ownAt (wipeR ρ5 vs) j ≠ some q := fun j z => n6 j (own_wipe z)
      have R7 := R6.wipe vs
      rw [hw] at R7
      have e25 : Same S' S5 := (e2.trans e4).trans e5
      exact ⟨xs, h6, by rw [rp.length]; omega, S5, ρ5, xs ++ [v], ds ++ [z], R7.poke s6 f1 n7, e'.trans e25, upd_same, s6, n7, (rp.up e25).append (.one r5), by rw [List.length_append, List.length_singleton]; omega, q5a, q5⟩
    | false =>
      refine iteF ?_
      obtain ⟨R6, h6, s6, n6⟩ := R4.unpin f1 f0 R1.heok
      have n7 : ∀ j, ownAt (wipeR ρ4 vs) j ≠ some q := fun j z => n6 j (own_wipe z)
      have R7 := R6.wipe vs
      rw [hw] at R7
      have e25 : Same S' S4 := e2.trans e4
      exact ⟨S4, ρ4, xs, ds, R7, e'.trans e25, h6, s6, n7, rp.up e25, by omega, q4a rfl, q4⟩
  · have hi' : j = its.length := by omega
    subst hi'
    rw [List.drop_length] at q'
    refine .inl ⟨(hJ _ S' H' ys o4 o5).1 (Nat.le_refl _), ?_⟩
    have Rb := R1.back R' e'
    rw [back_wipe] at Rb
    refine hq q xs H' S' _ ds Rb e' hH hS f1 (fun j z => ?_) rp q'
    have z2 := z
    rw [← back_wipe] at z2
    refine hn j ?_
    unfold ownAt at z2 ⊢
    by_cases hj : j ∈ vs
    · cases w : (backR ρ1 (wipeR ρ' vs) vs)[j]? with
      | none => rw [w] at z2; cases z2
      | some c =>
        rw [w] at z2
        have zz := back_in hj w
        subst zz
        have h' : (backC ρ1[j]?).at? = some q := z2
        unfold backC at h'
        split at h' <;> cases h'
    · rw [back_at hj] at z2; exact z2
variable {ifs : List Expr} {scope : Scope} {own : List (Str × Nat)}
theorem df_lcN (hc : X.calm = true) (hN : X.N.Nodup) (hi : OwnIt X i tg iter f) (hiv : i ∉ own.map (·.2)) (ok : BlkOk X.N X.env.scope scope own) (B : Blk X RK scope (own.map (·.2)) tg ifs elt b t e) (hs : ∀ x, foldedSetIterable iter X.env x = pure x := by intro _; rfl) :
    DFr X RK W (.ListComp elt [⟨tg, iter, ifs, 0⟩] scope pos) (dLcN f i b t e (own.map (·.2))) := by
  obtain ⟨J, hJ, hl, hp⟩ := hi
  refine pe_weak (pe_lc (g := liftGv X.K RK (own.map (·.2)) b) (te := liftE X.K RK W0 e) hc hN hp ok B.g B.t B.e hs) ?_
  rintro σ H Qh ⟨g, S, ρ, Q, E, R, ⟨p, ds, h0, hsz, q⟩, hq, hx⟩
  obtain ⟨c1, c2, c3, xs, c4, c5⟩ := R.cell i _ h0
  refine ⟨p, xs, c1, SqL.of c4, ?_⟩
  exact lift_lcN hiv (hJ p ds) R h0 (by rw [hl]; exact hsz) q fun q' xs' H' S' ρ2 ds' R' e' h1 h2 h3 h4 r k => hq q' xs' H' S' _ ds' R' e' h1 h2 h3 h4 r k
/-- y = [.. for .. in an own list ..] -/
theorem st_lcND {y : Str} {py spos : Pos} (l : Nat) (hc : X.calm = true) (hN : X.N.Nodup) (hi : OwnIt X i tg iter f) (hiv : i ∉ own.map (·.2)) (ok : BlkOk X.N X.env.scope scope own) (B : Blk X RK scope (own.map (·.2)) tg ifs elt b t e) (hy : X.N[l]? = some y := by rfl) (hyl : X.env.scope.names.lookup y = some .local := by rfl)
    (hsw : swapsWith (.ListComp elt [⟨tg, iter, ifs, 0⟩] scope pos) (some (.Name y py)) spos.line X.env = pure true := by exact sw_true rfl rfl rfl (by decide +kernel)) (hs : ∀ x, foldedSetIterable iter X.env x = pure x := by intro _; rfl) :
    DSt X RK W (.Assign [.Name y py] (.ListComp elt [⟨tg, iter, ifs, 0⟩] scope pos) spos) (dSet l (dOf (dLcN f i b t e (own.map (·.2))))) := by
  obtain ⟨J, hJ, hl, hp⟩ := hi
  refine ps_weak (ps_setLc (g := liftGv X.K RK (own.map (·.2)) b) (te := liftE X.K RK W0 e) hc hN hy hyl hsw hp ok B.g B.t B.e hs) ?_
  rintro D σ H ⟨g, S, ρ, Kd, E, R, ⟨p, ds, h0, hsz, q⟩, k1, k2, k3, k4, hx⟩
  obtain ⟨c1, c2, c3, xs, c4, c5⟩ := R.cell i _ h0
  refine ⟨p, xs, c1, SqL.of c4, ?_⟩
  refine lift_lcN (Qh := fun v H' => D.nx (σ.set l (some v)) H') hiv (hJ p ds) R h0 (by rw [hl]; exact hsz) q fun q' xs' H1 S1 ρ2 ds' R1 e1 h1 h2 h3 h4 r1 q1 => ?_
  obtain ⟨R2, e2⟩ := R1.see h1 h2 h3 h4
  exact k1 _ H1 _ _ (R2.setD' (.lst upd_same (r1.up e2))) (e1.trans e2) q1
end
@[simp] theorem dLcN_s {f : List D → List D} {i : Nat} {b : DG} {t : DB} {e : DT} {vs : List Nat} {E : EK} {ρ : Rho} {Q : List D → Rho → Prop} : dLcN f i b t e vs E ρ Q = onOwn ρ[i]? fun p ds => ds.length ≤ sizeLine ∧ lcGo b (chkT i p ds t) (chkE i p ds e) vs (fun ds' ρ2 => Q ds' (backR ρ ρ2 vs)) (f ds) [] ρ := by
  unfold dLcN onOwn
  apply propext
  constructor
  · rintro ⟨p, ds, h0, h⟩
    rw [h0]; exact h
  · intro h
    cases w : ρ[i]? with
    | none => rw [w] at h; exact h.elim
    | some c =>
      rw [w] at h
      cases c with
      | own p ds => exact ⟨p, ds, rfl, h⟩
      | _ => exact h.elim
end DL
/-! DL22: repr, texts compared -/
namespace DL
open PySem PySem.Spec PyProof.Rows L2

/-! ### equal, texts too -/
def D.isS : D → Bool
  | .str _ => true
  | _ => false
def eqOk (x y : D) : Prop := (x.isS = true ∧ y.isS = true) ∨ (x.plain = true ∧ y.plain = true ∧ x.dep ≤ 64 ∧ y.dep ≤ 64)
@[simp] def fEqA (x y : D) (k : D → Prop) : Prop := eqOk x y ∧ k (.bl (D.eqb x y))
@[simp] def fNeA (x y : D) (k : D → Prop) : Prop := eqOk x y ∧ k (.bl (!D.eqb x y))
@[simp] theorem eqOk_str {a b : Str} : eqOk (.str a) (.str b) = True := by unfold eqOk; simp [D.isS]
@[simp] theorem eqOk_int {a b : Int} : eqOk (.int a) (.int b) = True := by unfold eqOk; simp
@[simp] theorem eqOk_bl {a b : Bool} : eqOk (.bl a) (.bl b) = True := by unfold eqOk; simp
theorem eqOk_of {x y : D} (h1 : x.plain = true) (h2 : y.plain = true) (h3 : x.dep ≤ 64) (h4 : y.dep ≤ 64) : eqOk x y := .inr ⟨h1, h2, h3, h4⟩
@[simp] theorem eqOk_ti {a b : List Int} : eqOk (.tup (a.map D.int)) (.tup (b.map D.int)) = True := by
  exact eq_true (eqOk_of (ti_plain a) (ti_plain b) (by rw [show D.dep (.tup (a.map D.int)) = 1 from ti_dep a]; decide) (by rw [show D.dep (.tup (b.map D.int)) = 1 from ti_dep b]; decide))
@[simp] theorem eqOk_li {a b : List Int} : eqOk (.lst (a.map D.int)) (.lst (b.map D.int)) = True := by
  exact eq_true (eqOk_of (li_plain a) (li_plain b) (by rw [show D.dep (.lst (a.map D.int)) = 1 from li_dep a]; decide) (by rw [show D.dep (.lst (b.map D.int)) = 1 from li_dep b]; decide))
@[simp] theorem str_eqb (a b : Str) : D.eqb (.str a) (.str b) = (a == b) := by simp only [D.eqb]
def rEqA (K : PySem.W.Frag) : R2 := fun x y H Q => rEqD K x y H Q ∨ rEq x y H Q
def rNeA (K : PySem.W.Frag) : R2 := fun x y H Q => rNeD K x y H Q ∨ rNe x y H Q
section
variable {X : Cx}
theorem op_eqA (hu : X.A.units + 64 < cLine) : OpR X (compareOp .Eq) (rEqA X.K) := (op_eqD hu).or op_eq
theorem op_neA (hu : X.A.units + 64 < cLine) : OpR X (compareOp .NotEq) (rNeA X.K) := (op_neD hu).or op_ne
theorem isS_str {x : D} (h : x.isS = true) : ∃ a, x = .str a := by
  cases x <;> simp [D.isS] at h
  exact ⟨_, rfl⟩
theorem dec_str {a b : Str} : decide (V.str a = V.str b) = (a == b) := by
  rw [Bool.eq_iff_iff]
  simp
theorem opd_eqA : OpD X.K (rEqA X.K) fEqA := by
  rintro RK g S H σ ρ x y v u k Qh R rx ry ⟨h | ⟨p1, p2, d1, d2⟩, h2⟩ hq
  · obtain ⟨a, rfl⟩ := isS_str h.1
    obtain ⟨b, rfl⟩ := isS_str h.2
    cases rx; cases ry
    refine .inr ⟨rfl, ?_⟩
    rw [dec_str]
    rw [str_eqb] at h2
    exact hq _ H S _ R (Same.refl S) (.bl _) h2
  · exact .inl (opd_eq RK g S H σ ρ x y v u k Qh R rx ry ⟨p1, p2, d1, d2, h2⟩ hq)
theorem opd_neA : OpD X.K (rNeA X.K) fNeA := by
  rintro RK g S H σ ρ x y v u k Qh R rx ry ⟨h | ⟨p1, p2, d1, d2⟩, h2⟩ hq
  · obtain ⟨a, rfl⟩ := isS_str h.1
    obtain ⟨b, rfl⟩ := isS_str h.2
    cases rx; cases ry
    refine .inr ⟨rfl, ?_⟩
    rw [dec_str]
    rw [str_eqb] at h2
    exact hq _ H S _ R (Same.refl S) (.bl _) h2
  · exact .inl (opd_ne RK g S H σ ρ x y v u k Qh R rx ry ⟨p1, p2, d1, d2, h2⟩ hq)

/-! ### repr -/
/-- what can be shown -/
def D.rp (x : D) : Prop := x.plain = true ∧ x.dep ≤ 60 ∧ x.py.showable = true ∧ x.py.shown.length ≤ sizeLine
def D.text (x : D) : D := .str x.py.shown
def fRepr : List D → (D → Prop) → Prop
  | [x], k => x.rp ∧ k x.text
  | _, _ => False
@[simp] theorem fRepr_0 {x : D} {k : D → Prop} : fRepr [x] k = (x.rp ∧ k x.text) := rfl
def rRepr (K : PySem.W.Frag) : List V → Hp → VK → Prop := fun xs H Q => ∃ v d, xs = [v] ∧ Dp K H v d ∧ d.hasDict = false ∧ d.depth ≤ 60 ∧ d.showable = true ∧ d.shown.length ≤ sizeLine ∧ Q (.str d.shown) H
theorem call_reprD (hg : Gd X.A) (hu : X.A.units + 65 < cLine) : CallR X (.builtin "repr") (rRepr X.K) := by
  intro pins s σ H xs us Q I r ⟨v, d, e, hd, hn, hdp, hs, hsz, q⟩
  subst e
  obtain ⟨u, rfl, rx⟩ := vals1 r
  have road : ∀ a, u = .ref a → wpAny (model X.prog X.w) X.A (call (.builtin "repr") [u]) (EP X pins σ Q) X.xe s := by
    intro a ea
    obtain ⟨as, rd⟩ := Dp.reads I d v u hd rx
    subst ea
    exact repr_of_reads' rd hs (PyData.noDict_hsm hn) hg (by omega) (fun _ _ z => z) (fun h' t tk hk => ⟨.str _, H, I.kept hk, ⟨t, rfl⟩, q⟩) hsz
  cases hd with
  | non => cases rx; exact PySem.P.repr_of_none ⟨.str _, H, I.tok _, ⟨_, rfl⟩, q⟩
  | bl b =>
    cases rx
    refine PySem.P.repr_of_bool ⟨.str _, H, I.tok _, ⟨_, rfl⟩, ?_⟩
    cases b <;> exact q
  | int i =>
    obtain ⟨t, rfl⟩ := rx
    exact PySem.P.repr_of_int (of_decide_eq_true hs) ⟨.str _, H, I.tok _, ⟨_, rfl⟩, q⟩
  | str x =>
    obtain ⟨t, rfl⟩ := rx
    exact PySem.P.repr_of_str ⟨.str _, H, I.tok _, ⟨_, rfl⟩, q⟩ hsz
  | lst h1 h2 => exact road _ rx
  | tup h1 h2 => exact road _ rx
theorem plain_noDict {x : D} (h : x.plain = true) : x.py.hasDict = false := PyData.hasDict_of_canLay _ (D.lay_py x h)
theorem cd_repr : CallD X.K (rRepr X.K) fRepr := by
  intro RK g S H σ ρ xs vs k Qh R r h hq
  match xs, r, h with
  | [x], .cons r1 .nil, ⟨⟨h1, h2, h3, h4⟩, h5⟩ =>
    refine ⟨_, x.py, rfl, Rep.dp x _ h1 (r1.up R.sub), plain_noDict h1, by rw [D.dep_py]; exact h2, h3, h4, ?_⟩
    exact hq _ H S _ R (Same.refl S) (.str _) h5
end
/-! ### sorted, a tuple too -/
section
open PyProof.Rows PySem.Calls SrtO
variable {prog : Program} {w : World} {A : Around} {E : Value → Shared → Prop} {s : Shared}
theorem collect_tp {l : Addr} {o : Obj} {vs : List Value} {n : Nat} {Q : List Value → Shared → Prop} (ho : s.heap.get? l = some o) (hc : o.cls = .type "tuple") (hd : o.data = .seq vs.toArray n) (hz : vs.length ≤ sizeLine)
    (h : Q vs { s with heap := (s.heap.push (seqObj "list" #[] 0)).update s.heap.objs.size (Obj.mapSeq (· ++ vs.toArray)) }) : wpAny (model prog w) A (collect (.ref l)) Q E s := by
  unfold collect
  apply wpAny_bind
  apply wpAny_runValue
  apply codeAny_builtin entry_proto_collect'
  show wpAny _ _ (do again (.builtin "list.__iadd__" ⟨[← newList [], .ref l], []⟩)) _ _ s
  apply wpAny_bind
  refine wpAny_newList ?_ (Nat.zero_le _)
  apply wpAny_pure
  refine ⟨Code.quiet_builtin _ (by decide +kernel), ?_⟩
  apply codeAny_builtin entry_list_iadd'
  show wpAny _ _ (Builtin.List.listExtendWith (.ref s.heap.objs.size) (.ref l) (.ref s.heap.objs.size)) _ _ { s with heap := s.heap.push (seqObj "list" #[] 0) }
  have hl : (s.heap.push (seqObj "list" #[] 0)).get? l = some o := Heap.get?_push_of_some _ ho
  have hn : (s.heap.push (seqObj "list" #[] 0)).get? s.heap.objs.size = some (seqObj "list" #[] 0) := Heap.get?_push_size _ rfl
  unfold Builtin.List.listExtendWith
  apply wpAny_bind
  refine wpAny_typeOf (T := "tuple") ⟨o, hl, hc⟩ ?_
  have tt : (Value.type "tuple" == Value.type "tuple") = true := by rfl
  rw [if_pos (show _ from by rw [tt]; simp)]
  apply wpAny_bind
  apply listItems_at hl hd
  apply wpAny_bind
  refine listItems_at (xs := #[]) (n := 0) hn rfl ?_
  rw [if_neg (show _ from by simp)]
  apply wpAny_bind
  refine listUpdate_at (xs := #[]) (n := 0) hn rfl ?_ (Nat.zero_le _) ?_
  · apply wpAny_pure
    show wpAny (model prog w) A (do
        let q ← load s.heap.objs.size
        match q.data with
        | .seq xs _ => pure xs.toList
        | _ => unsupported "internal:collect") Q E { s with heap := (s.heap.push (seqObj "list" #[] 0)).update s.heap.objs.size (Obj.mapSeq (· ++ vs.toArray)) }
    apply wpAny_bind
    refine wpAny_load (get?_update_seq hn _) ?_
    show wpAny _ _ (pure ((#[] : Array Value) ++ vs.toArray).toList) Q E _
    have e : ((#[] : Array Value) ++ vs.toArray).toList = vs := by simp
    rw [e]
    exact wpAny_pure h
  · show ((#[] : Array Value) ++ vs.toArray).size ≤ sizeLine + 1
    simp only [Array.size_append, List.size_toArray, List.length_nil]
    omega
theorem sorted_tp {l : Addr} {o : Obj} {vs : List Value} {n : Nat} {ltv : Value → Value → Bool} {Q : Value → Shared → Prop} (O : Swo ltv) (ho : s.heap.get? l = some o) (hc : o.cls = .type "tuple") (hd : o.data = .seq vs.toArray n) (hz : vs.length ≤ sizeLine)
    (hS : 2 ≤ vs.length → ∀ (h₁ : Heap) (a : Addr), h₁.get? a = some (seqObj "list" vs.toArray 0) → (∀ b o, s.heap.get? b = some o → b ≠ a ∧ h₁.get? b = some o) → SortableO prog w A.in1.in1 { s with heap := h₁ } a vs ltv)
    (h : ∀ out : List Value, Srtd ltv out → Stb ltv out vs → Q (.ref (s.heap.objs.size + 1)) { s with heap := sortedAll s.heap vs out.toArray }) : wpAny (model prog w) A (call (.builtin "sorted") [.ref l]) Q E s := by
  apply Calls.call_function_entry kind_sorted plain_sorted entry_sorted (args_sorted1 _)
  unfold Builtin.«sorted»
  refine wpAny_bind (m := checkCount "sorted" 1 1 _) (wpAny_pure (wpAny_bind ?_))
  refine collect_tp ho hc hd hz (wpAny_bind ?_)
  refine wpAny_newList ?_ hz
  let h0 : Heap := (s.heap.push (seqObj "list" #[] 0)).update s.heap.objs.size (Obj.mapSeq (· ++ vs.toArray))
  have e1 : h0.objs.size = s.heap.objs.size + 1 := by
    show ((s.heap.push (seqObj "list" #[] 0)).update s.heap.objs.size (Obj.mapSeq (· ++ vs.toArray))).objs.size = _
    rw [Heap.size_update, size_push']
  have e2 : (h0.push (seqObj "list" vs.toArray 0)).get? (s.heap.objs.size + 1) = some (seqObj "list" vs.toArray 0) := by
    rw [← e1]
    exact Heap.get?_push_size _ rfl
  have e3 : ∀ b o, s.heap.get? b = some o → b ≠ s.heap.objs.size + 1 ∧ (h0.push (seqObj "list" vs.toArray 0)).get? b = some o := by
    intro b o q
    have lt : b < s.heap.objs.size := Heap.lt_size q
    refine ⟨Nat.ne_of_lt (Nat.lt_succ_of_lt lt), Heap.get?_push_of_some _ ?_⟩
    show ((s.heap.push (seqObj "list" #[] 0)).update s.heap.objs.size (Obj.mapSeq (· ++ vs.toArray))).get? b = some o
    rw [Heap.get?_update_ne _ _ _ _ (Nat.ne_of_lt lt)]
    exact Heap.get?_push_of_some _ q
  show wpAny _ _ _ _ _ { s with heap := h0.push (seqObj "list" vs.toArray 0) }
  rw [show ((s.heap.push (seqObj "list" #[] 0)).update s.heap.objs.size (Obj.mapSeq (· ++ vs.toArray))).objs.size = s.heap.objs.size + 1 from e1]
  apply wpAny_bind
  apply wpAny_holding
  refine wpAny_call_entry slot_list_sort ⟨_, e2, rfl⟩ entry_list_sort ?_ (args_list_sort _)
  refine list_sort_ord O e2 hz (fun h2 => hS h2 _ _ e2 e3) fun out h1 h2 => ⟨_, rfl, ?_⟩
  exact wpAny_pure ⟨_, rfl, h out h1 h2⟩
end
section
variable {X : Cx}
def rSortedA (K : PySem.W.Frag) : List V → Hp → VK → Prop := fun vs H Q => rSortedI K vs H Q ∨ ∃ (a : Addr) (ns : List Int), vs = [V.ref a] ∧ SqT K H a (ns.map V.int) ∧ ∀ (ns' : List Int) (p : Addr), ns'.Perm ns → ns'.Pairwise (· ≤ ·) → H p = none → Q (.ref p) (upd H p (.lst (ns'.map V.int)))
theorem cr_sortedA : CallR X (.builtin "sorted") (rSortedA X.K) := by
  refine CallR.or cr_sortedI ?_
  rintro pins s σ H vs us Q I r ⟨a, ns, rfl, hs, q⟩
  obtain ⟨its, rv, pl, hz⟩ := I.tuple hs
  obtain ⟨o, ho, hc, n, hd⟩ := pl
  rw [Vals.ref1 r]
  have hi := rv.ints
  have hl := rv.length
  refine sorted_tp SrtO.swo_int ho hc hd (by omega) (fun h2 h₁ a' _ _ => SrtO.ints_sortable hi h2) ?_
  intro out h1 h2
  obtain ⟨k1, k2, k3⟩ := SrtO.ints_out hi h1 h2
  obtain ⟨ep, he⟩ := PyProof.Rows.sortedAll_at s.heap its out.toArray
  have hlen : ((out.map SrtO.iv).map V.int).length ≤ sizeLine := by
    rw [List.length_map, k2.length_eq]
    simpa using hz
  have I2 := I.laid (a := s.heap.objs.size + 1) (o := .lst ((out.map SrtO.iv).map V.int)) (t' := s.toks) (fun _ _ => PyProof.Rows.sortedAll_old) (Nat.le_succ _) ⟨hlen, out, ep, vals_of_ints k1, he⟩
  exact ⟨.ref _, _, I2, rfl, q _ _ k2 k3 (I.hok.fresh (Nat.le_succ _))⟩
def fSortedA : List D → (List D → Prop) → Prop
  | [.lst xs], k => ∃ ns : List Int, xs = ns.map D.int ∧ ∀ ns' : List Int, ns'.Perm ns → ns'.Pairwise (· ≤ ·) → k (ns'.map D.int)
  | [.tup xs], k => ∃ ns : List Int, xs = ns.map D.int ∧ ∀ ns' : List Int, ns'.Perm ns → ns'.Pairwise (· ≤ ·) → k (ns'.map D.int)
  | _, _ => False
@[simp] theorem fSortedA_0 {xs : List D} {k : List D → Prop} : fSortedA [.lst xs] k = (∃ ns : List Int, xs = ns.map D.int ∧ ∀ ns' : List Int, ns'.Perm ns → ns'.Pairwise (· ≤ ·) → k (ns'.map D.int)) := rfl
@[simp] theorem fSortedA_1 {xs : List D} {k : List D → Prop} : fSortedA [.tup xs] k = (∃ ns : List Int, xs = ns.map D.int ∧ ∀ ns' : List Int, ns'.Perm ns → ns'.Pairwise (· ≤ ·) → k (ns'.map D.int)) := rfl
theorem cf_sortedA : CallF X.K (rSortedA X.K) fSortedA := by
  intro RK g S H σ ρ xs vs k Qh R r h hq
  match xs, r, h with
  | [.lst xs], r, h => exact .inl (cf_sorted RK g S H σ ρ [.lst xs] vs k Qh R r h hq)
  | [.tup xs], .cons r1 .nil, ⟨ns, e, h⟩ =>
    subst e
    cases r1 with
    | tup a1 a2 =>
      have z := a2.ints
      subst z
      refine .inr ⟨_, ns, rfl, (TupAt.up R.sub a1).sq, fun ns' p h1 h2 hp => ?_⟩
      obtain ⟨f1, f2, f3, f4⟩ := R.fresh hp
      exact hq p _ _ S _ (R.alloc0 hp) (Same.refl S) upd_same f2 f1 f4 Reps.of_ints (h ns' h1 h2)
end
end DL
/-! DL23: the shared defs (cards): promises, readings, plain proofs -/
namespace DL
open PySem PySem.Spec PyProof.Rows L2
abbrev Ends0 (R : D → Prop) : DEnds := { nx := fun _ => R .non, rt := fun x _ => R x }
def D.isI : D → Bool
  | .int _ => true
  | _ => false
def inR (a b : Int) : D → Bool
  | .int i => decide (a ≤ i) && decide (i ≤ b)
  | _ => false
@[simp] theorem inR_int {a b i : Int} : inR a b (.int i) = (decide (a ≤ i) && decide (i ≤ b)) := rfl
/-- a thing that is of a known kind; a tuple of such, not too long -/
def okT (x : D) : Prop := x.tyN.isSome = true ∧ ∀ xs, x = .tup xs → xs.length ≤ 1000 ∧ ∀ y ∈ xs, y.tyN.isSome = true
theorem okT_int {i : Int} : okT (.int i) := ⟨rfl, fun xs h => by cases h⟩
theorem okT_ti {ns : List Int} (h : ns.length ≤ 1000) : okT (.tup (ns.map D.int)) := ⟨rfl, fun xs e => by
  cases e
  refine ⟨by simpa using h, fun y hy => ?_⟩
  obtain ⟨i, _, rfl⟩ := List.mem_map.mp hy
  rfl⟩
def T_is_integer : TSp := fun ds R _ => ∃ x, ds = [x] ∧ x.tyN.isSome = true ∧ R (.bl x.isI)
def T_is_within : TSp := fun ds R _ => ∃ (x : D) (a b : Int), ds = [x, .int a, .int b] ∧ x.tyN.isSome = true ∧ R (.bl (inR a b x))
def T_is_card : TSp := fun ds R _ => ∃ x, ds = [x] ∧ x.tyN.isSome = true ∧ R (.bl (inR 0 51 x))
def T_is_suit : TSp := fun ds R _ => ∃ x, ds = [x] ∧ x.tyN.isSome = true ∧ R (.bl (inR 0 3 x))
def T_is_rank : TSp := fun ds R _ => ∃ x, ds = [x] ∧ x.tyN.isSome = true ∧ R (.bl (inR 0 12 x))
def T_raw_rank : TSp := fun ds R _ => ∃ i : Int, ds = [.int i] ∧ R (.int (i / 4))
def T_raw_suit : TSp := fun ds R _ => ∃ i : Int, ds = [.int i] ∧ R (.int (i - 4 * (i / 4)))
def T_raw_card : TSp := fun ds R _ => ∃ i j : Int, ds = [.int i, .int j] ∧ R (.int (4 * i + j))
theorem mono_is_integer : MonoT T_is_integer := fun ds R R2 E E2 hR hE x => (let ⟨v1, v2⟩ := x; ⟨v1, (let ⟨v3, v4, v5⟩ := v2; ⟨v3, v4, hR _ v5⟩)⟩)
theorem len_is_integer : ∀ ds R E, T_is_integer ds R E → ds.length = 1 := by rintro ds R E ⟨_, rfl, _⟩; rfl
theorem mono_is_within : MonoT T_is_within := fun ds R R2 E E2 hR hE x => (let ⟨v1, v2, v3, v4⟩ := x; ⟨v1, v2, v3, (let ⟨v5, v6, v7⟩ := v4; ⟨v5, v6, hR _ v7⟩)⟩)
theorem len_is_within : ∀ ds R E, T_is_within ds R E → ds.length = 3 := by rintro ds R E ⟨_, _, _, rfl, _⟩; rfl
theorem mono_is_card : MonoT T_is_card := fun ds R R2 E E2 hR hE x => (let ⟨v1, v2⟩ := x; ⟨v1, (let ⟨v3, v4, v5⟩ := v2; ⟨v3, v4, hR _ v5⟩)⟩)
theorem len_is_card : ∀ ds R E, T_is_card ds R E → ds.length = 1 := by rintro ds R E ⟨_, rfl, _⟩; rfl
theorem mono_is_suit : MonoT T_is_suit := fun ds R R2 E E2 hR hE x => (let ⟨v1, v2⟩ := x; ⟨v1, (let ⟨v3, v4, v5⟩ := v2; ⟨v3, v4, hR _ v5⟩)⟩)
theorem len_is_suit : ∀ ds R E, T_is_suit ds R E → ds.length = 1 := by rintro ds R E ⟨_, rfl, _⟩; rfl
theorem mono_is_rank : MonoT T_is_rank := fun ds R R2 E E2 hR hE x => (let ⟨v1, v2⟩ := x; ⟨v1, (let ⟨v3, v4, v5⟩ := v2; ⟨v3, v4, hR _ v5⟩)⟩)
theorem len_is_rank : ∀ ds R E, T_is_rank ds R E → ds.length = 1 := by rintro ds R E ⟨_, rfl, _⟩; rfl
theorem mono_raw_rank : MonoT T_raw_rank := fun ds R R2 E E2 hR hE x => (let ⟨v1, v2⟩ := x; ⟨v1, (let ⟨v3, v4⟩ := v2; ⟨v3, hR _ v4⟩)⟩)
theorem len_raw_rank : ∀ ds R E, T_raw_rank ds R E → ds.length = 1 := by rintro ds R E ⟨_, rfl, _⟩; rfl
theorem mono_raw_suit : MonoT T_raw_suit := fun ds R R2 E E2 hR hE x => (let ⟨v1, v2⟩ := x; ⟨v1, (let ⟨v3, v4⟩ := v2; ⟨v3, hR _ v4⟩)⟩)
theorem len_raw_suit : ∀ ds R E, T_raw_suit ds R E → ds.length = 1 := by rintro ds R E ⟨_, rfl, _⟩; rfl
theorem mono_raw_card : MonoT T_raw_card := fun ds R R2 E E2 hR hE x => (let ⟨v1, v2, v3⟩ := x; ⟨v1, v2, (let ⟨v4, v5⟩ := v3; ⟨v4, hR _ v5⟩)⟩)
theorem len_raw_card : ∀ ds R E, T_raw_card ds R E → ds.length = 2 := by rintro ds R E ⟨_, _, rfl, _⟩; rfl
/-- is_integer: thing -/
def r_is_integer : DS := (dRet (dAndV (dCB fIsi (dACons (dVar 0) (dACons (dC (.raw (.ty "int"))) dANil))) (dNotV (dCB fIsi (dACons (dVar 0) (dACons (dC (.raw (.ty "bool"))) dANil))))))
/-- is_within: thing, least, most -/
def r_is_within : DS := (dRet (dAndV (dCall T_is_integer (dACons (dVar 0) dANil)) (dChain fLe fLe (dVar 1) (dVar 0) (dVar 2))))
/-- is_card: thing -/
def r_is_card : DS := (dRet (dCall T_is_within (dACons (dVar 0) (dACons (dC (.int 0)) (dACons (dBin fSub (dC (.int 52)) (dC (.int 1))) dANil)))))
def r_is_suit : DS := (dRet (dCall T_is_within (dACons (dVar 0) (dACons (dC (.int 0)) (dACons (dBin fSub (dC (.int 4)) (dC (.int 1))) dANil)))))
def r_is_rank : DS := (dRet (dCall T_is_within (dACons (dVar 0) (dACons (dC (.int 0)) (dACons (dBin fSub (dC (.int 13)) (dC (.int 1))) dANil)))))
def r_raw_rank : DS := (dRet (dBin fDiv (dVar 0) (dC (.int 4))))
def r_raw_suit : DS := (dRet (dBin fSub (dVar 0) (dBin fMul (dC (.int 4)) (dBin fDiv (dVar 0) (dC (.int 4))))))
def r_raw_card : DS := (dRet (dBin fAdd (dBin fMul (dC (.int 4)) (dVar 0)) (dVar 1)))
theorem mul4 {i : Int} : MulOk 4 i := mulL (by omega) (by omega)
theorem div4 {i : Int} : DivOk i 4 := divS (by omega) (by omega)
@[simp] theorem mul4_s {i : Int} : MulOk 4 i = True := eq_true mul4
@[simp] theorem div4_s {i : Int} : DivOk i 4 = True := eq_true div4
theorem pu_is_integer : ∀ ds R E, T_is_integer ds R E → r_is_integer (fun x _ => E x) (Ends0 R) (rho0 1 ds) := by
  rintro ds R E ⟨x, rfl, hx, h⟩
  cases x <;> first | (simp at hx; done) | simpa [r_is_integer, D.isI] using h
theorem pu_is_within : ∀ ds R E, T_is_within ds R E → r_is_within (fun x _ => E x) (Ends0 R) (rho0 3 ds) := by
  rintro ds R E ⟨x, a, b, rfl, hx, h⟩
  simp [r_is_within, T_is_integer, hx]
  cases x with
  | int i =>
    simp [D.isI]
    simp at h
    exact ⟨fun h1 => by simpa [h1] using h, fun h1 => by simpa [show ¬ a ≤ i by omega] using h⟩
  | raw v => simp at hx
  | fn v => simp at hx
  | _ => simpa [D.isI, inR] using h
theorem pu_is_card : ∀ ds R E, T_is_card ds R E → r_is_card (fun x _ => E x) (Ends0 R) (rho0 1 ds) := by
  rintro ds R E ⟨x, rfl, hx, h⟩
  simp [r_is_card, T_is_within, and_assoc, hx]
  exact h
theorem pu_is_suit : ∀ ds R E, T_is_suit ds R E → r_is_suit (fun x _ => E x) (Ends0 R) (rho0 1 ds) := by
  rintro ds R E ⟨x, rfl, hx, h⟩
  simp [r_is_suit, T_is_within, and_assoc, hx]
  exact h
theorem pu_is_rank : ∀ ds R E, T_is_rank ds R E → r_is_rank (fun x _ => E x) (Ends0 R) (rho0 1 ds) := by
  rintro ds R E ⟨x, rfl, hx, h⟩
  simp [r_is_rank, T_is_within, and_assoc, hx]
  exact h
theorem pu_raw_rank : ∀ ds R E, T_raw_rank ds R E → r_raw_rank (fun x _ => E x) (Ends0 R) (rho0 1 ds) := by
  rintro ds R E ⟨i, rfl, h⟩
  simpa [r_raw_rank] using h
theorem pu_raw_suit : ∀ ds R E, T_raw_suit ds R E → r_raw_suit (fun x _ => E x) (Ends0 R) (rho0 1 ds) := by
  rintro ds R E ⟨i, rfl, h⟩
  simpa [r_raw_suit] using h
theorem pu_raw_card : ∀ ds R E, T_raw_card ds R E → r_raw_card (fun x _ => E x) (Ends0 R) (rho0 2 ds) := by
  rintro ds R E ⟨i, j, rfl, h⟩
  simpa [r_raw_card] using h
end DL
/-! DL24: hands, decks -/
namespace DL
open PySem PySem.Spec PyProof.Rows L2
/-- ascending -/
def incr : List Int → Bool
  | a :: b :: r => decide (a < b) && incr (b :: r)
  | _ => true
def isHandD : D → Bool
  | .tup xs => xs.all (inR 0 51) && incr (xs.map D.toI)
  | _ => false
def isDeckD : D → Bool
  | .tup xs => decide (xs.length ≤ 52) && xs.all (inR 0 51) && decide ((xs.map D.toI).Nodup)
  | _ => false
def T_is_tuple_of : TSp := fun ds R _ => ∃ (x : D) (n : Int), ds = [x, .int n] ∧ x.tyN.isSome = true ∧ R (.bl (match x with | .tup xs => decide ((xs.length : Int) = n) | _ => false))
def T_is_hand : TSp := fun ds R _ => ∃ x, ds = [x] ∧ okT x ∧ R (.bl (isHandD x))
def T_is_deck : TSp := fun ds R _ => ∃ x, ds = [x] ∧ okT x ∧ R (.bl (isDeckD x))
def T_check_card : TSp := fun ds R _ => ∃ x, ds = [x] ∧ x.tyN.isSome = true ∧ inR 0 51 x = true ∧ R .non
def T_check_hand : TSp := fun ds R _ => ∃ x, ds = [x] ∧ okT x ∧ isHandD x = true ∧ R .non
def T_rank_of : TSp := fun ds R _ => ∃ i : Int, ds = [.int i] ∧ inR 0 51 (.int i) = true ∧ R (.int (i / 4))
def T_suit_of : TSp := fun ds R _ => ∃ i : Int, ds = [.int i] ∧ inR 0 51 (.int i) = true ∧ R (.int (i - 4 * (i / 4)))
theorem mono_is_tuple_of : MonoT T_is_tuple_of := fun ds R R2 E E2 hR hE x => (let ⟨v1, v2, v3⟩ := x; ⟨v1, v2, (let ⟨v4, v5, v6⟩ := v3; ⟨v4, v5, hR _ v6⟩)⟩)
theorem len_is_tuple_of : ∀ ds R E, T_is_tuple_of ds R E → ds.length = 2 := by rintro ds R E ⟨_, _, rfl, _⟩; rfl
theorem mono_is_hand : MonoT T_is_hand := fun ds R R2 E E2 hR hE x => (let ⟨v1, v2⟩ := x; ⟨v1, (let ⟨v3, v4, v5⟩ := v2; ⟨v3, v4, hR _ v5⟩)⟩)
theorem len_is_hand : ∀ ds R E, T_is_hand ds R E → ds.length = 1 := by rintro ds R E ⟨_, rfl, _⟩; rfl
theorem mono_is_deck : MonoT T_is_deck := fun ds R R2 E E2 hR hE x => (let ⟨v1, v2⟩ := x; ⟨v1, (let ⟨v3, v4, v5⟩ := v2; ⟨v3, v4, hR _ v5⟩)⟩)
theorem len_is_deck : ∀ ds R E, T_is_deck ds R E → ds.length = 1 := by rintro ds R E ⟨_, rfl, _⟩; rfl
theorem mono_check_card : MonoT T_check_card := fun ds R R2 E E2 hR hE x => (let ⟨v1, v2⟩ := x; ⟨v1, (let ⟨v3, v4, v5, v6⟩ := v2; ⟨v3, v4, v5, hR _ v6⟩)⟩)
theorem len_check_card : ∀ ds R E, T_check_card ds R E → ds.length = 1 := by rintro ds R E ⟨_, rfl, _⟩; rfl
theorem mono_check_hand : MonoT T_check_hand := fun ds R R2 E E2 hR hE x => (let ⟨v1, v2⟩ := x; ⟨v1, (let ⟨v3, v4, v5, v6⟩ := v2; ⟨v3, v4, v5, hR _ v6⟩)⟩)
theorem len_check_hand : ∀ ds R E, T_check_hand ds R E → ds.length = 1 := by rintro ds R E ⟨_, rfl, _⟩; rfl
theorem mono_rank_of : MonoT T_rank_of := fun ds R R2 E E2 hR hE x => (let ⟨v1, v2⟩ := x; ⟨v1, (let ⟨v3, v4, v5⟩ := v2; ⟨v3, v4, hR _ v5⟩)⟩)
theorem len_rank_of : ∀ ds R E, T_rank_of ds R E → ds.length = 1 := by rintro ds R E ⟨_, rfl, _⟩; rfl
theorem mono_suit_of : MonoT T_suit_of := fun ds R R2 E E2 hR hE x => (let ⟨v1, v2⟩ := x; ⟨v1, (let ⟨v3, v4, v5⟩ := v2; ⟨v3, v4, hR _ v5⟩)⟩)
theorem len_suit_of : ∀ ds R E, T_suit_of ds R E → ds.length = 1 := by rintro ds R E ⟨_, rfl, _⟩; rfl
def r_is_tuple_of : DS := (dRet (dAndV (dCB fIsi (dACons (dVar 0) (dACons (dC (.raw (.ty "tuple"))) dANil))) (dBin fEqA (dLenN 0) (dVar 1))))
def r_is_hand : DS := (dSeq (dIf (dBOr (dBNot (dTru (dCB fIsi (dACons (dVar 0) (dACons (dC (.raw (.ty "tuple"))) dANil))))) (dBNot (dTru (dCB fAll (dACons (dOf (dLc (dSeqI (dVar 0)) (bName 3) dYes (dCall T_is_card (dACons (dVar 3) dANil)) [3])) dANil))))) (dRet (dC (.bl false))) dNext)
    (dRet (dCB fAll (dACons (dOf (dLc (dZipI (dACons (dVar 0) (dACons (dSl (dVar 0) (dPart (dC (.int 1))) dNoP) dANil))) (bTup 2 (bCons (bName 1) (bCons (bName 2) bNil))) dYes (dBin fLt (dVar 1) (dVar 2)) [1, 2])) dANil))))
def r_is_deck : DS := (dSeq (dIf (dBOr (dBNot (dTru (dCB fIsi (dACons (dVar 0) (dACons (dC (.raw (.ty "tuple"))) dANil))))) (dBOr (dTst (dBin fGt (dLenN 0) (dC (.int 52)))) (dBNot (dTru (dCB fAll (dACons (dOf (dLc (dSeqI (dVar 0)) (bName 1) dYes (dCall T_is_card (dACons (dVar 1) dANil)) [1])) dANil)))))) (dRet (dC (.bl false))) dNext)
    (dRet (dBin fEqA (dCB fLen (dACons (dOfK (dDc (dSeqI (dVar 0)) (bName 1) dYes (dVar 1) (dC (.bl true)) [1])) dANil)) (dLenN 0))))
def r_check_card : DS := (dIf (dBNot (dTru (dCall T_is_card (dACons (dVar 0) dANil)))) dNever dNext)
def r_check_hand : DS := (dIf (dBNot (dTru (dCall T_is_hand (dACons (dVar 0) dANil)))) dNever dNext)
def r_rank_of : DS := (dSeq (dDrop (dCall T_check_card (dACons (dVar 0) dANil)))
    (dRet (dCall T_raw_rank (dACons (dVar 0) dANil))))
def r_suit_of : DS := (dSeq (dDrop (dCall T_check_card (dACons (dVar 0) dANil)))
    (dRet (dCall T_raw_suit (dACons (dVar 0) dANil))))
theorem pu_is_tuple_of : ∀ ds R E, T_is_tuple_of ds R E → r_is_tuple_of (fun x _ => E x) (Ends0 R) (rho0 2 ds) := by
  rintro ds R E ⟨x, n, rfl, hx, h⟩
  cases x with
  | raw v => simp at hx
  | fn v => simp at hx
  | tup xs => simpa [r_is_tuple_of] using h
  | _ => simpa [r_is_tuple_of] using h
theorem all_bls {α : Type} {xs : List α} {p : α → Bool} {k : D → Prop} (h : k (.bl (xs.all p))) : ∃ bs : List Bool, (xs.map fun y => D.bl (p y)) = bs.map D.bl ∧ k (.bl (bs.all fun b => b)) := by
  refine ⟨xs.map p, by rw [List.map_map]; rfl, ?_⟩
  rw [List.all_map]; exact h
theorem any_bls {α : Type} {xs : List α} {p : α → Bool} {k : D → Prop} (h : k (.bl (xs.any p))) : ∃ bs : List Bool, (xs.map fun y => D.bl (p y)) = bs.map D.bl ∧ k (.bl (bs.any fun b => b)) := by
  refine ⟨xs.map p, by rw [List.map_map]; rfl, ?_⟩
  rw [List.any_map]; exact h
theorem cards_ints {a b : Int} : ∀ {xs : List D}, xs.all (inR a b) = true → xs = (xs.map D.toI).map D.int
  | [], _ => rfl
  | x :: xs, h => by
    rw [List.all_cons, Bool.and_eq_true] at h
    rw [List.map_cons, List.map_cons, ← cards_ints h.2]
    cases x <;> first | rfl | (simp [inR] at h)
theorem incr_zip : ∀ ns : List Int, ((ns.zip (ns.drop 1)).all fun p => decide (p.1 < p.2)) = incr ns
  | [] => rfl
  | [_] => rfl
  | a :: b :: r => by
    have ih := incr_zip (b :: r)
    simp only [List.drop_succ_cons, List.drop_zero, List.zip_cons_cons, List.all_cons, incr] at ih ⊢
    rw [← ih]
theorem zipD_ints (ns ms : List Int) : zipD (ns.map D.int) (ms.map D.int) = (ns.zip ms).map fun p => .tup [.int p.1, .int p.2] := by
  unfold zipD
  rw [List.zip_map, List.map_map]; rfl
theorem pu_is_hand : ∀ ds R E, T_is_hand ds R E → r_is_hand (fun x _ => E x) (Ends0 R) (rho0 4 ds) := by
  rintro ds R E ⟨x, rfl, ⟨hx, hx2⟩, h⟩
  cases x with
  | raw v => simp at hx
  | fn v => simp at hx
  | tup xs =>
    obtain ⟨hl, ht⟩ := hx2 xs rfl
    simp [r_is_hand]
    refine ⟨sz_of (by omega), ?_⟩
    refine lc_map (fun y => .bl (inR 0 51 y)) rfl (fun y hy K hK => ?_) (fun ρ2 hρ => ?_)
    · simp [lcStep_s, T_is_card, ht y hy]
      exact hK _ rfl
    · rw [back_is (ρ3 := [.dat (.tup xs), .un, .un, .un]) hρ rfl]
      refine ⟨xs.map (inR 0 51), by rw [List.map_map]; rfl, ?_⟩
      by_cases hall : xs.all (inR 0 51) = true
      · have e := cards_ints hall
        generalize hns : xs.map D.toI = ns at e
        subst e
        have hn : ∀ z ∈ ns, 0 ≤ z ∧ z ≤ 51 := by
          intro z hz
          have := List.all_eq_true.mp hall _ (List.mem_map_of_mem hz)
          simpa using this
        simp at hl
        have h2 : isHandD (.tup (ns.map D.int)) = incr ns := by
          unfold isHandD
          simp only [hall, toI_map, Bool.true_and]
        rw [h2] at h
        have hf : false ∉ (ns.map D.int).map (inR 0 51) := by
          intro z
          obtain ⟨y, hy, e⟩ := List.mem_map.mp z
          rw [List.all_eq_true.mp hall y hy] at e; cases e
        refine ⟨fun z => (hf z).elim, fun _ => ?_⟩
        simp
        rw [cut_from (by omega), show (1 : Int).toNat = 1 by rfl, ← List.map_drop, zipD_ints]
        refine ⟨sz_of (by simp; omega), ?_⟩
        refine lc_all _ _ (fun p : Int × Int => .bl (decide (p.1 < p.2))) rfl (fun p hp K hK => ?_) (fun ρ3 hρ3 => all_bls (by rw [incr_zip]; exact h))
        simp [lcStep_s]
        exact hK _ rfl
      · have h2 : isHandD (.tup xs) = false := by
          unfold isHandD
          simp only [Bool.eq_false_iff.mpr hall, Bool.false_and]
        rw [h2] at h
        have hf : false ∈ xs.map (inR 0 51) := by
          have : ∃ y ∈ xs, inR 0 51 y = false := by simpa using hall
          obtain ⟨y, hy, e⟩ := this
          exact List.mem_map.mpr ⟨y, hy, e⟩
        exact ⟨fun _ => h, fun z => (z hf).elim⟩
  | _ => simpa [r_is_hand, isHandD] using h
theorem pu_check_card : ∀ ds R E, T_check_card ds R E → r_check_card (fun x _ => E x) (Ends0 R) (rho0 1 ds) := by
  rintro ds R E ⟨x, rfl, hx, hx2, h⟩
  simp [r_check_card, T_is_card, hx, hx2]
  exact h
theorem pu_check_hand : ∀ ds R E, T_check_hand ds R E → r_check_hand (fun x _ => E x) (Ends0 R) (rho0 1 ds) := by
  rintro ds R E ⟨x, rfl, hx, hx2, h⟩
  simp [r_check_hand, T_is_hand, hx, hx2]
  exact h
theorem pu_rank_of : ∀ ds R E, T_rank_of ds R E → r_rank_of (fun x _ => E x) (Ends0 R) (rho0 1 ds) := by
  rintro ds R E ⟨i, rfl, hx, h⟩
  simp at hx
  simp [r_rank_of, T_check_card, T_raw_rank, hx]
  exact h
theorem pu_suit_of : ∀ ds R E, T_suit_of ds R E → r_suit_of (fun x _ => E x) (Ends0 R) (rho0 1 ds) := by
  rintro ds R E ⟨i, rfl, hx, h⟩
  simp at hx
  simp [r_suit_of, T_check_card, T_raw_suit, hx]
  exact h
/-- {x: c for x in numbers}, alike ones too -/
def foldI (c : D) (acc : KD) (ns : List Int) : KD := ns.foldl (fun a i => putD a (.inl i) c) acc
theorem dc_fold {b : DG} {ek e : DT} {vs : List Nat} {w : Rho} {kd : KD → Rho → Prop} {c : D} : ∀ (ns : List Int) (acc : KD) (ρ1 : Rho), wipeR ρ1 vs = w →
    (∀ i ∈ ns, ∀ K : Key → D → Rho → Prop, (∀ ρ', wipeR ρ' vs = w → K (.inl i) c ρ') → b (.int i) w fun ρ2 => ek EX0 ρ2 fun y ρ3 => e EX0 ρ3 fun z ρ4 => ∃ q, y.key? = some q ∧ K q z ρ4) →
    (∀ ρ2, wipeR ρ2 vs = w → kd (foldI c acc ns) ρ2) → dcGo b dYes ek e vs kd (ns.map D.int) acc ρ1
  | [], acc, ρ1, hw, _, hq => hq ρ1 hw
  | i :: ns, acc, ρ1, hw, ht, hq => by
    show b (.int i) (wipeR ρ1 vs) _
    rw [hw]
    exact ht i List.mem_cons_self (fun q z ρ' => dcGo b dYes ek e vs kd (ns.map D.int) (putD acc q z) ρ') fun ρ' h' => dc_fold ns _ ρ' h' (fun j hj => ht j (List.mem_cons_of_mem _ hj)) hq
theorem putD_old {kds : KD} {k : Key} {d : D} (h : k ∈ kds.map (·.1)) : (putD kds k d).map (·.1) = kds.map (·.1) := by
  unfold putD
  obtain ⟨p, hp, e⟩ := List.mem_map.mp h
  rw [if_pos (List.any_eq_true.mpr ⟨p, hp, decide_eq_true e⟩), List.map_map]
  apply List.map_congr_left
  intro q _
  simp only [Function.comp]
  split <;> rfl
abbrev keysOf (a : KD) : List Key := a.map (·.1)
theorem foldI_len (c : D) : ∀ (ns : List Int) (acc : KD), (keysOf acc).Nodup → (foldI c acc ns).length ≤ acc.length + ns.length ∧ ((foldI c acc ns).length = acc.length + ns.length ↔ (keysOf acc ++ ns.map (Sum.inl : Int → Key)).Nodup)
  | [], acc, h => by simpa [foldI] using h
  | i :: ns, acc, h => by
    show (foldI c (putD acc (.inl i) c) ns).length ≤ _ ∧ ((foldI c (putD acc (.inl i) c) ns).length = _ ↔ _)
    by_cases hi : (Sum.inl i : Key) ∈ acc.map (·.1)
    · have e := putD_old (d := c) hi
      obtain ⟨h1, h2⟩ := foldI_len c ns (putD acc (.inl i) c) (by unfold keysOf at *; rw [e]; exact h)
      have hl : (putD acc (.inl i) c).length = acc.length := by have := congrArg List.length e; simpa using this
      rw [hl] at h1 h2
      simp only [List.length_cons]
      refine ⟨by omega, ⟨fun z => by omega, fun z => ?_⟩⟩
      rw [List.map_cons] at z
      exact ((List.nodup_append.mp z).2.2 _ hi _ List.mem_cons_self rfl).elim
    · rw [putD_new hi]
      obtain ⟨h1, h2⟩ := foldI_len c ns (acc ++ [(.inl i, c)]) (by
        unfold keysOf at *
        rw [List.map_append]
        refine List.nodup_append.mpr ⟨h, by simp, fun a ha b hb e => ?_⟩
        simp at hb; subst hb; subst e; exact hi ha)
      simp only [keysOf, List.length_append, List.length_cons, List.length_nil, List.map_append, List.map_cons, List.map_nil, List.append_assoc, List.singleton_append] at h1 h2 ⊢
      refine ⟨by omega, ?_⟩
      rw [← h2]
      omega
theorem nodup_inl {ns : List Int} : (ns.map (Sum.inl : Int → Key)).Nodup ↔ ns.Nodup := by
  unfold List.Nodup
  rw [List.pairwise_map]
  constructor
  · intro h; exact h.imp fun {a b} hab z => hab (by rw [z])
  · intro h; exact h.imp fun {a b} hab z => hab (Sum.inl.inj z)
theorem foldI_nodup (c : D) (ns : List Int) : decide (((foldI c [] ns).length : Int) = ns.length) = decide ns.Nodup := by
  have := (foldI_len c ns [] (by simp)).2
  simp only [keysOf, List.map_nil, List.nil_append, List.length_nil, Nat.zero_add, nodup_inl] at this
  by_cases h : ns.Nodup
  · rw [decide_eq_true h, decide_eq_true (by have := this.mpr h; omega)]
  · rw [decide_eq_false h, decide_eq_false (fun z => h (this.mp (by omega)))]
theorem pu_is_deck : ∀ ds R E, T_is_deck ds R E → r_is_deck (fun x _ => E x) (Ends0 R) (rho0 2 ds) := by
  rintro ds R E ⟨x, rfl, ⟨hx, hx2⟩, h⟩
  cases x with
  | raw v => simp at hx
  | fn v => simp at hx
  | tup xs =>
    obtain ⟨hl, ht⟩ := hx2 xs rfl
    simp [r_is_deck]
    refine ⟨fun h1 => ?_, fun h1 => ⟨sz_of (by omega), ?_⟩⟩
    · have h2 : isDeckD (.tup xs) = false := by
        show (decide (xs.length ≤ 52) && xs.all (inR 0 51) && decide ((xs.map D.toI).Nodup)) = false
        rw [decide_eq_false (show ¬ xs.length ≤ 52 by omega)]; rfl
      rw [h2] at h; exact h
    · refine lc_map (fun y => .bl (inR 0 51 y)) rfl (fun y hy K hK => ?_) (fun ρ2 hρ => ?_)
      · simp [lcStep_s, T_is_card, ht y hy]
        exact hK _ rfl
      · rw [back_is (ρ3 := [.dat (.tup xs), .un]) hρ rfl]
        refine ⟨xs.map (inR 0 51), by rw [List.map_map]; rfl, ?_⟩
        by_cases hall : xs.all (inR 0 51) = true
        · have e := cards_ints hall
          generalize hns : xs.map D.toI = ns at e
          subst e
          simp at hl
          have h2 : isDeckD (.tup (ns.map D.int)) = decide ns.Nodup := by
            unfold isDeckD
            simp only [hall, toI_map, Bool.and_true, List.length_map]
            rw [decide_eq_true (show ns.length ≤ 52 by simp at h1; omega), Bool.true_and]
          rw [h2] at h
          have hf : false ∉ (ns.map D.int).map (inR 0 51) := by
            intro z
            obtain ⟨y, hy, e⟩ := List.mem_map.mp z
            rw [List.all_eq_true.mp hall y hy] at e; cases e
          refine ⟨fun z => (hf z).elim, fun _ => ?_⟩
          simp
          refine ⟨sz_of (by omega), ?_⟩
          refine dc_fold (c := .bl true) ns [] _ rfl (fun i hi K hK => ?_) (fun ρ3 hρ3 => ?_)
          · simp
            exact hK _ rfl
          · rw [back_is (ρ3 := [.dat (.tup (ns.map D.int)), .un]) hρ3 rfl]
            simp
            have e4 := foldI_nodup (.bl true) ns
            rw [e4]
            exact h
        · have h2 : isDeckD (.tup xs) = false := by
            unfold isDeckD
            simp only [Bool.eq_false_iff.mpr hall, Bool.and_false, Bool.false_and]
          rw [h2] at h
          have hf : false ∈ xs.map (inR 0 51) := by
            have : ∃ y ∈ xs, inR 0 51 y = false := by simpa using hall
            obtain ⟨y, hy, e⟩ := this
            exact List.mem_map.mpr ⟨y, hy, e⟩
          exact ⟨fun _ => h, fun z => (z hf).elim⟩
  | _ => simpa [r_is_deck, isDeckD] using h
end DL
/-! DL25: the laws' own shared defs -/
namespace DL
open PySem PySem.Spec PyProof.Rows L2
def T__law_draw : TSp := TDraw
theorem mono__law_draw : MonoT T__law_draw := mono_TDraw
theorem len__law_draw : ∀ ds R E, T__law_draw ds R E → ds.length = 1 := by rintro ds R E ⟨i, rfl, _⟩; rfl
def T__law_mixed : TSp := fun ds R _ => ∃ xs, ds = [.lst xs] ∧ xs.length ≤ 1000 ∧ ∀ ys : List D, ys.Perm xs → R (.lst ys)
def T__law_some : TSp := fun ds R _ => ∃ xs, ds = [.lst xs] ∧ xs ≠ [] ∧ xs.length ≤ 1000 ∧ ∀ x ∈ xs, R x
theorem mono__law_mixed : MonoT T__law_mixed := fun ds R R2 E E2 hR hE x => (let ⟨v1, v2⟩ := x; ⟨v1, (let ⟨v3, v4, v5⟩ := v2; ⟨v3, v4, (fun v6 => (fun v7 => hR _ ((v5 v6) v7)))⟩)⟩)
theorem len__law_mixed : ∀ ds R E, T__law_mixed ds R E → ds.length = 1 := by rintro ds R E ⟨_, rfl, _⟩; rfl
theorem mono__law_some : MonoT T__law_some := fun ds R R2 E E2 hR hE x => (let ⟨v1, v2⟩ := x; ⟨v1, (let ⟨v3, v4, v5, v6⟩ := v2; ⟨v3, v4, v5, (fun v7 v8 => hR _ (v6 v7 v8))⟩)⟩)
theorem len__law_some : ∀ ds R E, T__law_some ds R E → ds.length = 1 := by rintro ds R E ⟨_, rfl, _⟩; rfl
def r__law_mixed : DS := (dSeq (dPar [2, 3] (dafF (dCF fList (dACons (dVar 1) dANil)) (dafF (dfLst dANil) dafNil)))
    (dSeq (dWhile (dTst (dBin fGt (dLenN 2) (dC (.int 0)))) (dDrop (dApp 3 (dPopAt 2 (dCallR T__law_draw 0 (dACons (dLenN 2) dANil))))))
    (dRet (dVar 3))))
def r__law_some : DS := (dRet (dIxK 1 (dCallR T__law_draw 0 (dACons (dLenN 1) dANil))))
theorem pu__law_some : ∀ ds R E, T__law_some ds R E → r__law_some (fun x _ => E x) (Ends0 R) (rhoR 2 ds) := by
  rintro ds R E ⟨xs, rfl, h1, h0, h2⟩
  simp [r__law_some, T__law_draw, TDraw, and_assoc]
  have hp : 0 < xs.length := by
    cases xs with
    | nil => exact absurd rfl h1
    | cons _ _ => simp
  refine ⟨by omega, by omega, fun i hi hi2 => ?_⟩
  have hl : i.toNat < xs.length := by omega
  exact ⟨xs[i.toNat], by rw [atI_in hi hi2, List.getElem?_eq_getElem hl], h2 _ (List.getElem_mem hl)⟩
theorem pu__law_mixed : ∀ ds R E, T__law_mixed ds R E → r__law_mixed (fun x _ => E x) (Ends0 R) (rhoR 4 ds) := by
  rintro ds R E ⟨xs, rfl, hl, h⟩
  simp [r__law_mixed]
  intro p q
  refine wh_inv (fun n ρ => ∃ rs fs, ρ = [.res, .dat (.lst xs), .own p rs, .own q fs] ∧ n = rs.length ∧ (fs ++ rs).Perm xs) ?_ (n := xs.length) ⟨xs, [], rfl, rfl, by simp⟩
  rintro n ρ k ⟨rs, fs, rfl, hn, hp⟩ hk
  have hlen := hp.length_eq
  rw [List.length_append] at hlen
  simp
  constructor
  · intro h0
    simp [T__law_draw, TDraw, and_assoc]
    refine ⟨h0, by omega, fun i hi hi2 => ?_⟩
    have hj : i.toNat < rs.length := by omega
    have hz : rs[i.toNat]? = some rs[i.toNat] := List.getElem?_eq_getElem hj
    refine ⟨by omega, by omega, i.toNat, seq_in hi hi2, rs[i.toNat], hz, lst_lt (by omega), ?_⟩
    refine hk (n - 1) _ (by omega) ⟨rs.eraseIdx i.toNat, fs ++ [rs[i.toNat]], rfl, ?_, perm_take hp hz⟩
    rw [List.length_eraseIdx_of_lt hj]; omega
  · intro h0
    have e : rs = [] := by
      cases rs with
      | nil => rfl
      | cons _ _ => simp at h0
    subst e
    rw [List.append_nil] at hp
    exact h fs hp
end DL
/-! DL26: lists of numbers as data, nice data, places -/
namespace DL
open PySem PySem.Spec PyProof.Rows L2
/-! ### lists of numbers -/
def Ints : List D → Bool
  | [] => true
  | .int _ :: r => Ints r
  | _ => false
abbrev ints' (xs : List D) : List Int := xs.map D.toI
@[simp] theorem toI_int {i : Int} : D.toI (.int i) = i := rfl
@[simp] theorem Ints_nil : Ints [] = true := rfl
@[simp] theorem Ints_cons {i : Int} {r : List D} : Ints (.int i :: r) = Ints r := rfl
@[simp] theorem Ints_map : ∀ ns : List Int, Ints (ns.map D.int) = true
  | [] => rfl
  | _ :: r => Ints_map r
theorem Ints.ex : ∀ {xs : List D}, Ints xs = true → ∃ ns : List Int, xs = ns.map D.int
  | [], _ => ⟨[], rfl⟩
  | .int i :: r, h => by
    obtain ⟨ns, e⟩ := Ints.ex (xs := r) h
    exact ⟨i :: ns, by rw [e]; rfl⟩
  | .non :: _, h => by cases h
  | .bl _ :: _, h => by cases h
  | .str _ :: _, h => by cases h
  | .tup _ :: _, h => by cases h
  | .lst _ :: _, h => by cases h
  | .dct _ _ :: _, h => by cases h
  | .raw _ :: _, h => by cases h
  | .fn _ :: _, h => by cases h
@[simp] theorem toI_map_s (ns : List Int) : (ns.map D.int).map D.toI = ns := toI_map ns
@[simp] theorem toI_comp : D.toI ∘ D.int = id := rfl
@[simp] theorem comp_toI {α : Type} {f : Int → α} : (f ∘ D.toI) ∘ D.int = f := rfl
@[simp] theorem toI_comp_f {α : Type} {f : α → Int} : (D.toI ∘ fun x => D.int (f x)) = f := rfl
@[simp] theorem Ints_map_f {α : Type} {f : α → Int} : ∀ xs : List α, Ints (xs.map fun x => D.int (f x)) = true
  | [] => rfl
  | _ :: r => Ints_map_f r
@[simp] theorem Ints_map_c {α : Type} {f : α → Int} : ∀ xs : List α, Ints (xs.map (D.int ∘ f)) = true
  | [] => rfl
  | _ :: r => Ints_map_c r
theorem Ints.back {xs : List D} (h : Ints xs = true) : (xs.map D.toI).map D.int = xs := by
  obtain ⟨ns, rfl⟩ := Ints.ex h
  rw [toI_map]
@[simp] theorem Ints_append : ∀ {xs ys : List D}, Ints (xs ++ ys) = (Ints xs && Ints ys)
  | [], ys => by simp
  | x :: xs, ys => by
    have ih := Ints_append (xs := xs) (ys := ys)
    cases x <;> first | (simp; exact ih) | rfl
@[simp] theorem map_toI_append {xs ys : List D} : (xs ++ ys).map D.toI = xs.map D.toI ++ ys.map D.toI := List.map_append
@[simp] theorem Ints_take {xs : List D} (h : Ints xs = true) (k : Nat) : Ints (xs.take k) = true := by
  obtain ⟨ns, rfl⟩ := Ints.ex h
  rw [← List.map_take]; exact Ints_map _
@[simp] theorem Ints_drop {xs : List D} (h : Ints xs = true) (k : Nat) : Ints (xs.drop k) = true := by
  obtain ⟨ns, rfl⟩ := Ints.ex h
  rw [← List.map_drop]; exact Ints_map _
@[simp] theorem Ints_reverse {xs : List D} (h : Ints xs = true) : Ints xs.reverse = true := by
  obtain ⟨ns, rfl⟩ := Ints.ex h
  rw [← List.map_reverse]; exact Ints_map _
@[simp] theorem Ints_set {xs : List D} (h : Ints xs = true) (k : Nat) (i : Int) : Ints (xs.set k (.int i)) = true := by
  obtain ⟨ns, rfl⟩ := Ints.ex h
  rw [← List.map_set]; exact Ints_map _
@[simp] theorem Ints_repl {n : Nat} {i : Int} : Ints (List.replicate n (.int i)) = true := by
  induction n with
  | zero => rfl
  | succ n ih => rw [List.replicate_succ]; exact ih
@[simp] theorem Ints_erase {xs : List D} (h : Ints xs = true) (k : Nat) : Ints (xs.eraseIdx k) = true := by
  obtain ⟨ns, rfl⟩ := Ints.ex h
  rw [show (ns.map D.int).eraseIdx k = (ns.eraseIdx k).map D.int from by simp [List.eraseIdx_eq_take_drop_succ]]; exact Ints_map _
/-! ### places -/
theorem atI_nat_s {α : Type} {xs : List α} {k : Nat} : atI xs (k : Int) = xs[k]? := by
  by_cases h : k < xs.length
  · rw [atI_in (by omega) (by omega)]; simp
  · unfold atI ixN
    rw [if_pos (by omega), if_neg (by omega), List.getElem?_eq_none (by omega)]; rfl
@[simp] theorem atI_lit {α : Type} {xs : List α} {k : Nat} : atI xs (no_index (OfNat.ofNat k : Int)) = xs[(OfNat.ofNat k : Nat)]? := atI_nat_s (k := k)
@[simp] theorem atI_cast {α : Type} {xs : List α} {k : Nat} : atI xs (k : Int) = xs[k]? := atI_nat_s
@[simp] theorem atI_m1 {α : Type} {xs : List α} : atI xs (-1) = xs.getLast? := by
  cases h : xs with
  | nil => rfl
  | cons a r => rw [atI_neg1 (by simp), List.getLast?_eq_some_getLast]
@[simp] theorem atI_0 {α : Type} {xs : List α} : atI xs 0 = xs[0]? := atI_nat_s (k := 0)
@[simp] theorem atI_1 {α : Type} {xs : List α} : atI xs 1 = xs[1]? := atI_nat_s (k := 1)
@[simp] theorem atI_mapI {ns : List Int} {i : Int} : atI (ns.map D.int) i = (atI ns i).map D.int := by
  unfold atI
  rw [List.length_map]
  cases ixN ns.length i with
  | none => rfl
  | some j => simp
theorem atI_getD {ns : List Int} {i : Int} (h : 0 ≤ i) (h2 : i < ns.length) : atI ns i = some (ns.getD i.toNat 0) := by
  rw [atI_in h h2, List.getD_eq_getElem?_getD, List.getElem?_eq_getElem (by omega)]; rfl
theorem atI_get {α : Type} {xs : List α} {i : Int} (h : 0 ≤ i) (h2 : i < xs.length) : atI xs i = some (xs[i.toNat]'(by omega)) := by
  rw [atI_in h h2, List.getElem?_eq_getElem (by omega)]
@[simp] theorem ex_map_some {α β : Type} {o : Option α} {f : α → β} {k : β → Prop} : (∃ z, o.map f = some z ∧ k z) = ∃ j, o = some j ∧ k (f j) := by
  apply propext
  cases o with
  | none => simp
  | some a => simp
@[simp] theorem ex_ex_eq {α β : Type} {p : α → Prop} {f : α → β} {q : β → Prop} : (∃ b, (∃ a, p a ∧ f a = b) ∧ q b) ↔ ∃ a, p a ∧ q (f a) :=
  ⟨fun ⟨_, ⟨a, h1, h2⟩, h3⟩ => ⟨a, h1, h2 ▸ h3⟩, fun ⟨a, h1, h2⟩ => ⟨_, ⟨a, h1, rfl⟩, h2⟩⟩
/-! ### cuts of numbers -/
def cutI (ns : List Int) (lo hi : Option Int) : List Int := (ns.drop (HT.sIx ns.length 0 lo)).take (HT.sIx ns.length ns.length hi - HT.sIx ns.length 0 lo)
@[simp] theorem cutD_map {ns : List Int} {lo hi : Option Int} : DL.cutD (ns.map D.int) lo hi = (cutI ns lo hi).map D.int := by
  unfold DL.cutD cutI
  rw [List.length_map, List.map_take, List.map_drop]
theorem map_int_inj2 {a b : List Int} (h : a.map D.int = b.map D.int) : a = b := map_int_eq.mp h
theorem cutI_nat {ns : List Int} {a b : Int} (ha : 0 ≤ a) (hb : 0 ≤ b) : cutI ns (some a) (some b) = (ns.drop a.toNat).take (b.toNat - a.toNat) := map_int_inj2 (by rw [← cutD_map, cut_nat ha hb, List.map_take, List.map_drop])
theorem cutI_to {ns : List Int} {b : Int} (hb : 0 ≤ b) : cutI ns none (some b) = ns.take b.toNat := map_int_inj2 (by rw [← cutD_map, cut_to hb, List.map_take])
theorem cutI_from {ns : List Int} {a : Int} (ha : 0 ≤ a) : cutI ns (some a) none = ns.drop a.toNat := map_int_inj2 (by rw [← cutD_map, cut_from ha, List.map_drop])
@[simp] theorem cutI_full {ns : List Int} : cutI ns none none = ns := map_int_inj2 (by rw [← cutD_map, cut_full])
@[simp] theorem cutI_toN {ns : List Int} {k : Nat} : cutI ns none (some (k : Int)) = ns.take k := by rw [cutI_to (by omega)]; simp
@[simp] theorem cutI_fromN {ns : List Int} {k : Nat} : cutI ns (some (k : Int)) none = ns.drop k := by rw [cutI_from (by omega)]; simp
@[simp] theorem cutI_toL {ns : List Int} {k : Nat} : cutI ns none (some (no_index (OfNat.ofNat k : Int))) = ns.take (OfNat.ofNat k : Nat) := cutI_toN (k := k)
@[simp] theorem cutI_fromL {ns : List Int} {k : Nat} : cutI ns (some (no_index (OfNat.ofNat k : Int))) none = ns.drop (OfNat.ofNat k : Nat) := cutI_fromN (k := k)
@[simp] theorem cutI_1 {ns : List Int} : cutI ns (some 1) none = ns.drop 1 := cutI_fromN (k := 1)
/-! ### sizes -/
@[simp] theorem sz_0 : (0 ≤ sizeLine) = True := by simp
@[simp] theorem sz_1 : (1 ≤ sizeLine) = True := eq_true (by decide)
theorem sz_lit {k : Nat} (h : k ≤ 1000000) : (k ≤ sizeLine) = True := eq_true (sz_of h)
@[simp] theorem sz_2 : (2 ≤ sizeLine) = True := sz_lit (by decide)
@[simp] theorem sz_3 : (3 ≤ sizeLine) = True := sz_lit (by decide)
@[simp] theorem sz_4 : (4 ≤ sizeLine) = True := sz_lit (by decide)
@[simp] theorem sz_5 : (5 ≤ sizeLine) = True := sz_lit (by decide)
@[simp] theorem sz_6 : (6 ≤ sizeLine) = True := sz_lit (by decide)
@[simp] theorem sz_7 : (7 ≤ sizeLine) = True := sz_lit (by decide)
@[simp] theorem sz_8 : (8 ≤ sizeLine) = True := sz_lit (by decide)
@[simp] theorem sz_9 : (9 ≤ sizeLine) = True := sz_lit (by decide)
@[simp] theorem sz_10 : (10 ≤ sizeLine) = True := sz_lit (by decide)
@[simp] theorem sz_11 : (11 ≤ sizeLine) = True := sz_lit (by decide)
@[simp] theorem sz_12 : (12 ≤ sizeLine) = True := sz_lit (by decide)
@[simp] theorem sz_13 : (13 ≤ sizeLine) = True := sz_lit (by decide)
@[simp] theorem sz_14 : (14 ≤ sizeLine) = True := sz_lit (by decide)
@[simp] theorem sz_16 : (16 ≤ sizeLine) = True := sz_lit (by decide)
@[simp] theorem sz_20 : (20 ≤ sizeLine) = True := sz_lit (by decide)
@[simp] theorem lt_sz_0 : (0 < sizeLine) = True := eq_true (by decide)
theorem lt_sz {n : Nat} (h : n ≤ 100000) : n < sizeLine := lst_lt h
instance {x y : D} : Decidable (eqOk x y) := inferInstanceAs (Decidable (_ ∨ _))
/-! ### nice data -/
mutual
def D.nice : D → Bool
  | .non => true
  | .bl _ => true
  | .int i => decide (i.natAbs < 10 ^ 45)
  | .str x => decide (∀ c ∈ x.cps.toList, c < 1114112)
  | .tup xs => D.nices xs
  | .lst xs => D.nices xs
  | _ => false
def D.nices : List D → Bool
  | [] => true
  | x :: xs => D.nice x && D.nices xs
end
mutual
def D.wt : D → Nat
  | .str x => x.cps.size
  | .tup xs => D.wts xs
  | .lst xs => D.wts xs
  | _ => 0
def D.wts : List D → Nat
  | [] => 0
  | x :: xs => D.wt x + 1 + D.wts xs
end
mutual
theorem nice_plain : ∀ x : D, x.nice = true → x.plain = true
  | .non, _ => rfl
  | .bl _, _ => rfl
  | .int _, _ => rfl
  | .str x, h => by
    simp only [D.nice, decide_eq_true_eq] at h
    simp only [D.plain, D.py]
    first
      | rfl
      | (simp only [PyData.strOk, Array.all_eq_true_iff_forall_mem, decide_eq_true_eq]
         intro c hc
         exact h c (by simpa using hc))
  | .tup xs, h => by
    simp only [D.nice] at h
    simp only [D.plain]
    exact nice_plains xs h
  | .lst xs, h => by
    simp only [D.nice] at h
    simp only [D.plain]
    exact nice_plains xs h
  | .dct _ _, h => by simp only [D.nice] at h; cases h
  | .raw _, h => by simp only [D.nice] at h; cases h
  | .fn _, h => by simp only [D.nice] at h; cases h
theorem nice_plains : ∀ xs : List D, D.nices xs = true → D.plains xs = true
  | [], _ => rfl
  | x :: xs, h => by
    simp only [D.nices, Bool.and_eq_true] at h
    simp only [D.plains, Bool.and_eq_true]
    exact ⟨nice_plain x h.1, nice_plains xs h.2⟩
end
theorem str_leaf {B : Nat} {x : Str} (h : ∀ c ∈ x.cps.toList, c < 1114112) : PyData.leavesShort B (.str x) = true := by
  simp only [PyData.leavesShort, List.all_eq_true, decide_eq_true_eq]
  intro c hc
  have := h c hc
  omega
theorem log_lt {i : Int} (h : i.natAbs < 10 ^ 45) : i.natAbs.log2 < 1920 := by
  by_cases z : i.natAbs = 0
  · rw [z]; decide
  · refine (Nat.log2_lt z).mpr (Nat.lt_of_lt_of_le h ?_)
    decide
mutual
theorem nice_show : ∀ x : D, x.nice = true → x.py.showable = true ∧ PyData.leavesShort 46 x.py = true
  | .non, _ => ⟨rfl, rfl⟩
  | .bl _, _ => ⟨rfl, rfl⟩
  | .int i, h => by
    simp only [D.nice, decide_eq_true_eq] at h
    simp only [D.py, PyData.showable, PyData.leavesShort, decide_eq_true_eq]
    refine ⟨log_lt h, ?_⟩
    have e := int_text_length_le10 (a := i) (k := 45) (by decide) h
    show (Str.ofString (toString i)).length ≤ 46
    rw [PySem.ofString_length]; exact e
  | .str x, h => by
    simp only [D.nice, decide_eq_true_eq] at h
    simp only [D.py]
    exact ⟨by simp only [PyData.showable], str_leaf h⟩
  | .tup xs, h => by
    simp only [D.nice] at h
    simp only [D.py, PyData.showable, PyData.leavesShort]
    exact nices_show xs h
  | .lst xs, h => by
    simp only [D.nice] at h
    simp only [D.py, PyData.showable, PyData.leavesShort]
    exact nices_show xs h
  | .dct _ _, h => by simp only [D.nice] at h; cases h
  | .raw _, h => by simp only [D.nice] at h; cases h
  | .fn _, h => by simp only [D.nice] at h; cases h
theorem nices_show : ∀ xs : List D, D.nices xs = true → PyData.showableAll (D.pys xs) = true ∧ PyData.leavesShortAll 46 (D.pys xs) = true
  | [], _ => ⟨rfl, rfl⟩
  | x :: xs, h => by
    simp only [D.nices, Bool.and_eq_true] at h
    have h1 := nice_show x h.1
    have h2 := nices_show xs h.2
    simp only [D.pys, PyData.showableAll, PyData.leavesShortAll, Bool.and_eq_true]
    exact ⟨⟨h1.1, h2.1⟩, h1.2, h2.2⟩
end
mutual
theorem wt_py : ∀ x : D, x.nice = true → x.py.bulk ≤ x.wt
  | .non, _ => Nat.zero_le _
  | .bl _, _ => Nat.zero_le _
  | .int _, _ => Nat.zero_le _
  | .str x, _ => by simp only [D.py, D.wt, PyData.bulk]; exact Nat.le_refl _
  | .tup xs, h => by
    simp only [D.nice] at h
    simp only [D.py, D.wt, PyData.bulk]
    exact wts_py xs h
  | .lst xs, h => by
    simp only [D.nice] at h
    simp only [D.py, D.wt, PyData.bulk]
    exact wts_py xs h
  | .dct _ _, h => by simp only [D.nice] at h; cases h
  | .raw _, h => by simp only [D.nice] at h; cases h
  | .fn _, h => by simp only [D.nice] at h; cases h
theorem wts_py : ∀ xs : List D, D.nices xs = true → PyData.bulkAll (D.pys xs) ≤ D.wts xs
  | [], _ => Nat.zero_le _
  | x :: xs, h => by
    simp only [D.nices, Bool.and_eq_true] at h
    have h1 := wt_py x h.1
    have h2 := wts_py xs h.2
    simp only [D.pys, PyData.bulkAll, D.wts]
    omega
end
/-- nice data of a depth and a size at most -/
def okD (n w : Nat) (x : D) : Prop := x.nice = true ∧ x.dep ≤ n ∧ x.wt ≤ w
theorem okD.up {n w n' w' : Nat} {x : D} (h : okD n w x) (h1 : n ≤ n' := by omega) (h2 : w ≤ w' := by omega) : okD n' w' x := ⟨h.1, by have := h.2.1; omega, by have := h.2.2; omega⟩
theorem okD.rp {n w : Nat} {x : D} (h : okD n w x) (h1 : n ≤ 60 := by omega) (h2 : w ≤ 100000 := by omega) : x.rp := by
  obtain ⟨a, b, c⟩ := h
  have h3 := nice_show x a
  refine ⟨nice_plain x a, by omega, h3.1, ?_⟩
  have e := PyData.shown_le_bulk 46 (by decide) x.py h3.2
  have h4 := wt_py x a
  have h5 : (46 + 2) * x.py.bulk ≤ 48 * 100000 := Nat.mul_le_mul_left _ (by omega)
  rw [sizeLine_eq]; omega
theorem okD.eq {n w n' w' : Nat} {x y : D} (h : okD n w x) (h' : okD n' w' y) (h1 : n ≤ 64 := by omega) (h2 : n' ≤ 64 := by omega) : eqOk x y := .inr ⟨nice_plain x h.1, nice_plain y h'.1, by have := h.2.1; omega, by have := h'.2.1; omega⟩
theorem okD_non {n w : Nat} : okD n w .non := ⟨rfl, Nat.zero_le _, Nat.zero_le _⟩
theorem okD_bl {n w : Nat} {b : Bool} : okD n w (.bl b) := ⟨rfl, Nat.zero_le _, Nat.zero_le _⟩
theorem okD_int {n w : Nat} {i : Int} (h : i.natAbs < 10 ^ 45) : okD n w (.int i) := ⟨by simp only [D.nice]; exact decide_eq_true h, Nat.zero_le _, Nat.zero_le _⟩
theorem okD_i {n w : Nat} {i : Int} (h : -(10 ^ 40) < i) (h2 : i < 10 ^ 40) : okD n w (.int i) := okD_int (by omega)
theorem okD_str {n w : Nat} {x : Str} (h : ∀ c ∈ x.cps.toList, c < 1114112) (h2 : x.cps.size ≤ w) : okD n w (.str x) := ⟨by simp only [D.nice]; exact decide_eq_true h, Nat.zero_le _, h2⟩
theorem okDs {n w : Nat} : ∀ {xs : List D}, (∀ y ∈ xs, okD n w y) → D.nices xs = true ∧ D.deps xs ≤ n ∧ D.wts xs ≤ xs.length * (w + 1)
  | [], _ => ⟨rfl, Nat.zero_le _, Nat.zero_le _⟩
  | x :: xs, h => by
    obtain ⟨a, b, c⟩ := h x List.mem_cons_self
    obtain ⟨a2, b2, c2⟩ := okDs (xs := xs) fun y hy => h y (List.mem_cons_of_mem _ hy)
    simp only [D.nices, D.deps, D.wts, List.length_cons, Bool.and_eq_true]
    have e : (xs.length + 1) * (w + 1) = xs.length * (w + 1) + (w + 1) := by rw [Nat.add_mul, Nat.one_mul]
    exact ⟨⟨a, a2⟩, by omega, by omega⟩
theorem okD_tup {n w k : Nat} {xs : List D} (h : ∀ y ∈ xs, okD n w y) (hl : xs.length ≤ k) : okD (n + 1) (k * (w + 1)) (.tup xs) := by
  obtain ⟨a, b, c⟩ := okDs h
  have : xs.length * (w + 1) ≤ k * (w + 1) := Nat.mul_le_mul_right _ hl
  refine ⟨by simp only [D.nice]; exact a, by simp only [D.dep]; omega, by simp only [D.wt]; omega⟩
theorem okD_lst {n w k : Nat} {xs : List D} (h : ∀ y ∈ xs, okD n w y) (hl : xs.length ≤ k) : okD (n + 1) (k * (w + 1)) (.lst xs) := by
  obtain ⟨a, b, c⟩ := okDs h
  have : xs.length * (w + 1) ≤ k * (w + 1) := Nat.mul_le_mul_right _ hl
  refine ⟨by simp only [D.nice]; exact a, by simp only [D.dep]; omega, by simp only [D.wt]; omega⟩
theorem okD_ti {ns : List Int} {n k : Nat} (h : ∀ i ∈ ns, -(10 ^ 40) < i ∧ i < 10 ^ 40) (hl : ns.length ≤ k) (hn : 1 ≤ n := by omega) : okD n k (.tup (ns.map D.int)) := by
  have := okD_tup (n := 0) (w := 0) (k := k) (xs := ns.map D.int) (fun y hy => by
    obtain ⟨i, hi, rfl⟩ := List.mem_map.mp hy
    exact okD_i (h i hi).1 (h i hi).2) (by simpa using hl)
  exact this.up (by omega) (by omega)
theorem okD_li {ns : List Int} {n k : Nat} (h : ∀ i ∈ ns, -(10 ^ 40) < i ∧ i < 10 ^ 40) (hl : ns.length ≤ k) (hn : 1 ≤ n := by omega) : okD n k (.lst (ns.map D.int)) := by
  have := okD_lst (n := 0) (w := 0) (k := k) (xs := ns.map D.int) (fun y hy => by
    obtain ⟨i, hi, rfl⟩ := List.mem_map.mp hy
    exact okD_i (h i hi).1 (h i hi).2) (by simpa using hl)
  exact this.up (by omega) (by omega)
theorem okD_in {n w : Nat} {xs : List D} (h : D.nices xs = true) (hd : D.deps xs ≤ n) (hw : D.wts xs ≤ w) : xs.length ≤ w ∧ ∀ y ∈ xs, okD n w y := by
  induction xs generalizing w with
  | nil => exact ⟨Nat.zero_le _, fun y hy => by cases hy⟩
  | cons x xs ih =>
    simp only [D.nices, D.deps, D.wts, Bool.and_eq_true] at h hd hw
    obtain ⟨i1, i2⟩ := ih (w := w - 1) h.2 (by omega) (by omega)
    refine ⟨by simp; omega, fun y hy => ?_⟩
    rcases List.mem_cons.mp hy with e | e
    · subst e; exact ⟨h.1, by omega, by omega⟩
    · exact (i2 y e).up
theorem okD_tup_in {n w : Nat} {xs : List D} (h : okD (n + 1) w (.tup xs)) : xs.length ≤ w ∧ ∀ y ∈ xs, okD n w y := by
  obtain ⟨a, b, c⟩ := h
  simp only [D.nice, D.dep, D.wt] at a b c
  exact okD_in a (by omega) c
theorem okD_lst_in {n w : Nat} {xs : List D} (h : okD (n + 1) w (.lst xs)) : xs.length ≤ w ∧ ∀ y ∈ xs, okD n w y := by
  obtain ⟨a, b, c⟩ := h
  simp only [D.nice, D.dep, D.wt] at a b c
  exact okD_in a (by omega) c
theorem okD_tup0 {w : Nat} {xs : List D} (h : okD 0 w (.tup xs)) : False := by
  obtain ⟨a, b, c⟩ := h
  simp only [D.dep] at b; omega
theorem okD_lst0 {w : Nat} {xs : List D} (h : okD 0 w (.lst xs)) : False := by
  obtain ⟨a, b, c⟩ := h
  simp only [D.dep] at b; omega
/-! ### two things are the same (the laws' own) -/
def T__law_is (m : Nat) : TSp := fun ds R E => ∃ (x y : D), ds = [x, y] ∧ x = y ∧ 1 ≤ m ∧ okD (m - 1) 100000 x ∧ R (.bl true)
@[simp] theorem T__law_is_s {m : Nat} {x y : D} {R : D → Prop} {E : Exn → Prop} : T__law_is m [x, y] R E = (x = y ∧ 1 ≤ m ∧ okD (m - 1) 100000 x ∧ R (.bl true)) := by
  apply propext
  constructor
  · rintro ⟨_, _, e, h⟩
    simp only [List.cons.injEq, and_true] at e
    obtain ⟨rfl, rfl⟩ := e
    exact h
  · intro h
    exact ⟨_, _, rfl, h⟩
theorem mono__law_is (m : Nat) : MonoT (T__law_is m) := fun ds R R2 E E2 hR hE ⟨x, y, e, h, h0, h1, h2⟩ => ⟨x, y, e, h, h0, h1, hR _ h2⟩
theorem len__law_is (m : Nat) : ∀ ds R E, T__law_is m ds R E → ds.length = 2 := by rintro ds R E ⟨_, _, rfl, _⟩; rfl
theorem none__law_is : ∀ ds R E, ¬ T__law_is 0 ds R E := by
  rintro ds R E ⟨_, _, _, _, h, _⟩
  omega
theorem zip_self (xs : List D) : zipD xs xs = xs.map fun x => .tup [x, x] := by
  unfold zipD
  rw [show xs.zip xs = xs.map fun x => (x, x) by
    induction xs with
    | nil => rfl
    | cons x r ih => simp [ih]]
  rw [List.map_map]; rfl
@[simp] theorem text_eq {x : D} : D.eqb x.text x.text = true := by unfold D.text; simp
@[simp] theorem text_ok {x : D} : eqOk x.text x.text := by unfold D.text; simp
mutual
theorem eqb_self : ∀ x : D, x.nice = true → D.eqb x x = true
  | .non, _ => by simp only [D.eqb]
  | .bl b, _ => by simp only [D.eqb]; simp
  | .int i, _ => by simp
  | .str x, _ => by simp
  | .tup xs, h => by
    simp only [D.nice] at h
    simp only [D.eqb]
    exact eqbs_self xs h
  | .lst xs, h => by
    simp only [D.nice] at h
    simp only [D.eqb]
    exact eqbs_self xs h
  | .dct _ _, h => by simp only [D.nice] at h; cases h
  | .raw _, h => by simp only [D.nice] at h; cases h
  | .fn _, h => by simp only [D.nice] at h; cases h
theorem eqbs_self : ∀ xs : List D, D.nices xs = true → D.eqbs xs xs = true
  | [], _ => by simp only [D.eqbs]
  | x :: xs, h => by
    simp only [D.nices, Bool.and_eq_true] at h
    simp only [D.eqbs, Bool.and_eq_true]
    exact ⟨eqb_self x h.1, eqbs_self xs h.2⟩
end
def r__law_is (m : Nat) : DS := (dSeq (dIf (dTru (dCB fIsi (dACons (dVar 1) (dACons (dTup (dACons (dC (.raw (.ty "tuple"))) (dACons (dC (.raw (.ty "list"))) dANil))) dANil)))) (dSeq (dIf (dBOr (dTst (dBin fNeA (dCB fIsi (dACons (dVar 0) (dACons (dC (.raw (.ty "tuple"))) dANil))) (dCB fIsi (dACons (dVar 1) (dACons (dC (.raw (.ty "tuple"))) dANil))))) (dBNot (dTru (dCB fIsi (dACons (dVar 0) (dACons (dTup (dACons (dC (.raw (.ty "tuple"))) (dACons (dC (.raw (.ty "list"))) dANil))) dANil)))))) (dRet (dC (.bl false))) dNext)
    (dRet (dAndV (dBin fEqA (dLenN 0) (dLenN 1)) (dCB fAll (dACons (dOf (dLc (dZipI (dACons (dVar 0) (dACons (dVar 1) dANil))) (bTup 2 (bCons (bName 2) (bCons (bName 3) bNil))) dYes (dCall (T__law_is m) (dACons (dVar 2) (dACons (dVar 3) dANil))) [2, 3])) dANil))))) dNext)
    (dSeq (dIf (dBOr (dTst (dBin fIs (dVar 1) (dC .non))) (dTru (dCB fIsi (dACons (dVar 1) (dACons (dC (.raw (.ty "bool"))) dANil))))) (dRet (dIfE (dTst (dBin fIs (dVar 1) (dC .non))) (dBin fIs (dVar 0) (dC .non)) (dAndV (dCB fIsi (dACons (dVar 0) (dACons (dC (.raw (.ty "bool"))) dANil))) (dBin fEqA (dCB fRepr (dACons (dVar 0) dANil)) (dCB fRepr (dACons (dVar 1) dANil)))))) dNext)
    (dSeq (dIf (dTru (dCB fIsi (dACons (dVar 1) (dACons (dC (.raw (.ty "str"))) dANil)))) (dRet (dAndV (dCB fIsi (dACons (dVar 0) (dACons (dC (.raw (.ty "str"))) dANil))) (dBin fEqA (dCB fRepr (dACons (dVar 0) dANil)) (dCB fRepr (dACons (dVar 1) dANil))))) dNext)
    (dRet (dAndV (dCB fIsi (dACons (dVar 0) (dACons (dC (.raw (.ty "int"))) dANil))) (dAndV (dNotV (dCB fIsi (dACons (dVar 0) (dACons (dC (.raw (.ty "bool"))) dANil)))) (dBin fEqA (dCB fRepr (dACons (dVar 0) dANil)) (dCB fRepr (dACons (dVar 1) dANil)))))))))
def r__law_is__2 (m : Nat) : DS := (dSeq (dIf (dTru (dCB fIsi (dACons (dVar 1) (dACons (dTup (dACons (dC (.raw (.ty "tuple"))) (dACons (dC (.raw (.ty "list"))) dANil))) dANil)))) (dSeq (dIf (dBOr (dTst (dBin fNeA (dCB fIsi (dACons (dVar 0) (dACons (dC (.raw (.ty "tuple"))) dANil))) (dCB fIsi (dACons (dVar 1) (dACons (dC (.raw (.ty "tuple"))) dANil))))) (dTst (dBin fNeA (dCB fIsi (dACons (dVar 0) (dACons (dC (.raw (.ty "list"))) dANil))) (dCB fIsi (dACons (dVar 1) (dACons (dC (.raw (.ty "list"))) dANil)))))) (dRet (dC (.bl false))) dNext)
    (dRet (dAndV (dBin fEqA (dLenN 0) (dLenN 1)) (dCB fAll (dACons (dOf (dLc (dZipI (dACons (dVar 0) (dACons (dVar 1) dANil))) (bTup 2 (bCons (bName 2) (bCons (bName 3) bNil))) dYes (dCall (T__law_is m) (dACons (dVar 2) (dACons (dVar 3) dANil))) [2, 3])) dANil))))) dNext)
    (dSeq (dIf (dBOr (dTst (dBin fIs (dVar 1) (dC .non))) (dTst (dBin fIs (dVar 0) (dC .non)))) (dRet (dAndV (dBin fIs (dVar 1) (dC .non)) (dBin fIs (dVar 0) (dC .non)))) dNext)
    (dSeq (dIf (dBOr (dTst (dBin fNeA (dCB fIsi (dACons (dVar 0) (dACons (dC (.raw (.ty "bool"))) dANil))) (dCB fIsi (dACons (dVar 1) (dACons (dC (.raw (.ty "bool"))) dANil))))) (dTst (dBin fNeA (dCB fIsi (dACons (dVar 0) (dACons (dC (.raw (.ty "int"))) dANil))) (dCB fIsi (dACons (dVar 1) (dACons (dC (.raw (.ty "int"))) dANil)))))) (dRet (dC (.bl false))) dNext)
    (dRet (dAndV (dBin fEqA (dCB fIsi (dACons (dVar 0) (dACons (dC (.raw (.ty "str"))) dANil))) (dCB fIsi (dACons (dVar 1) (dACons (dC (.raw (.ty "str"))) dANil)))) (dBin fEqA (dVar 0) (dVar 1)))))))
def r__law_is__3 (m : Nat) : DS := (dSeq (dIf (dBOr (dTru (dCB fIsi (dACons (dVar 1) (dACons (dC (.raw (.ty "tuple"))) dANil)))) (dTru (dCB fIsi (dACons (dVar 1) (dACons (dC (.raw (.ty "list"))) dANil))))) (dSeq (dIf (dBOr (dTst (dBin fNeA (dCB fIsi (dACons (dVar 1) (dACons (dC (.raw (.ty "tuple"))) dANil))) (dCB fIsi (dACons (dVar 0) (dACons (dC (.raw (.ty "tuple"))) dANil))))) (dTst (dBin fNeA (dCB fIsi (dACons (dVar 1) (dACons (dC (.raw (.ty "list"))) dANil))) (dCB fIsi (dACons (dVar 0) (dACons (dC (.raw (.ty "list"))) dANil)))))) (dRet (dC (.bl false))) dNext)
    (dRet (dAndV (dBin fEqA (dLenN 0) (dLenN 1)) (dCB fAll (dACons (dOf (dLc (dZipI (dACons (dVar 0) (dACons (dVar 1) dANil))) (bTup 2 (bCons (bName 2) (bCons (bName 3) bNil))) dYes (dCall (T__law_is m) (dACons (dVar 2) (dACons (dVar 3) dANil))) [2, 3])) dANil))))) dNext)
    (dSeq (dIf (dBOr (dTru (dCB fIsi (dACons (dVar 1) (dACons (dC (.raw (.ty "dict"))) dANil)))) (dTru (dCB fIsi (dACons (dVar 0) (dACons (dC (.raw (.ty "dict"))) dANil))))) (dRet (dAndV (dCB fIsi (dACons (dVar 1) (dACons (dC (.raw (.ty "dict"))) dANil))) (dAndV (dCB fIsi (dACons (dVar 0) (dACons (dC (.raw (.ty "dict"))) dANil))) (dBin fEqA (dVar 0) (dVar 1))))) dNext)
    (dSeq (dIf (dBOr (dTst (dBin fIs (dVar 1) (dC .non))) (dTst (dBin fIs (dVar 0) (dC .non)))) (dRet (dAndV (dBin fIs (dVar 1) (dC .non)) (dBin fIs (dVar 0) (dC .non)))) dNext)
    (dSeq (dIf (dBOr (dTru (dCB fIsi (dACons (dVar 1) (dACons (dC (.raw (.ty "bool"))) dANil)))) (dTru (dCB fIsi (dACons (dVar 0) (dACons (dC (.raw (.ty "bool"))) dANil))))) (dRet (dAndV (dCB fIsi (dACons (dVar 1) (dACons (dC (.raw (.ty "bool"))) dANil))) (dAndV (dCB fIsi (dACons (dVar 0) (dACons (dC (.raw (.ty "bool"))) dANil))) (dBin fEqA (dVar 0) (dVar 1))))) dNext)
    (dSeq (dIf (dBOr (dTru (dCB fIsi (dACons (dVar 1) (dACons (dC (.raw (.ty "str"))) dANil)))) (dTru (dCB fIsi (dACons (dVar 0) (dACons (dC (.raw (.ty "str"))) dANil))))) (dRet (dAndV (dCB fIsi (dACons (dVar 1) (dACons (dC (.raw (.ty "str"))) dANil))) (dAndV (dCB fIsi (dACons (dVar 0) (dACons (dC (.raw (.ty "str"))) dANil))) (dBin fEqA (dVar 0) (dVar 1))))) dNext)
    (dRet (dAndV (dCB fIsi (dACons (dVar 0) (dACons (dC (.raw (.ty "int"))) dANil))) (dBin fEqA (dVar 0) (dVar 1)))))))))
theorem pu__law_is (m : Nat) : ∀ ds R E, T__law_is (m + 1) ds R E → r__law_is m (fun x _ => E x) (Ends0 R) (rho0 4 ds) := by
  rintro ds R E ⟨x, _, rfl, rfl, _, hx, h⟩
  simp only [Nat.add_sub_cancel] at hx
  cases x with
  | tup xs =>
    cases m with
    | zero => exact (okD_tup0 hx).elim
    | succ m =>
      obtain ⟨h1, h2⟩ := okD_tup_in hx
      simp [r__law_is, zip_self]
      refine ⟨sz_of (by omega), ?_⟩
      refine lc_all xs _ (fun _ => .bl true) rfl (fun y hy K hK => ?_) (fun ρ2 hρ => all_true h)
      simp [lcStep_s]
      exact ⟨h2 y hy, hK _ rfl⟩
  | lst xs =>
    cases m with
    | zero => exact (okD_lst0 hx).elim
    | succ m =>
      obtain ⟨h1, h2⟩ := okD_lst_in hx
      simp [r__law_is, zip_self]
      refine ⟨sz_of (by omega), ?_⟩
      refine lc_all xs _ (fun _ => .bl true) rfl (fun y hy K hK => ?_) (fun ρ2 hρ => all_true h)
      simp [lcStep_s]
      exact ⟨h2 y hy, hK _ rfl⟩
  | dct ks ds => have := hx.1; simp only [D.nice] at this; cases this
  | raw v => have := hx.1; simp only [D.nice] at this; cases this
  | fn v => have := hx.1; simp only [D.nice] at this; cases this
  | str y =>
    have hr : (D.str y).rp := by
      obtain ⟨a, b, c⟩ := hx
      exact okD.rp (n := 0) (w := 100000) ⟨a, Nat.zero_le _, c⟩
    simp [r__law_is, hr, h]
  | int i =>
    have hr : (D.int i).rp := by
      obtain ⟨a, b, c⟩ := hx
      exact okD.rp (n := 0) (w := 100000) ⟨a, Nat.zero_le _, c⟩
    simp [r__law_is, hr, h]
  | bl b =>
    have hr : (D.bl b).rp := okD.rp (n := 0) (w := 0) okD_bl
    simp [r__law_is, hr, h]
  | non => simp [r__law_is, h]
theorem pu__law_is__2 (m : Nat) : ∀ ds R E, T__law_is (m + 1) ds R E → r__law_is__2 m (fun x _ => E x) (Ends0 R) (rho0 4 ds) := by
  rintro ds R E ⟨x, _, rfl, rfl, _, hx, h⟩
  simp only [Nat.add_sub_cancel] at hx
  cases x with
  | tup xs =>
    cases m with
    | zero => exact (okD_tup0 hx).elim
    | succ m =>
      obtain ⟨h1, h2⟩ := okD_tup_in hx
      simp [r__law_is__2, zip_self]
      refine ⟨sz_of (by omega), ?_⟩
      refine lc_all xs _ (fun _ => .bl true) rfl (fun y hy K hK => ?_) (fun ρ2 hρ => all_true h)
      simp [lcStep_s]
      exact ⟨h2 y hy, hK _ rfl⟩
  | lst xs =>
    cases m with
    | zero => exact (okD_lst0 hx).elim
    | succ m =>
      obtain ⟨h1, h2⟩ := okD_lst_in hx
      simp [r__law_is__2, zip_self]
      refine ⟨sz_of (by omega), ?_⟩
      refine lc_all xs _ (fun _ => .bl true) rfl (fun y hy K hK => ?_) (fun ρ2 hρ => all_true h)
      simp [lcStep_s]
      exact ⟨h2 y hy, hK _ rfl⟩
  | dct ks ds => have := hx.1; simp only [D.nice] at this; cases this
  | raw v => have := hx.1; simp only [D.nice] at this; cases this
  | fn v => have := hx.1; simp only [D.nice] at this; cases this
  | str y =>
    have hr : (D.str y).rp := by
      obtain ⟨a, b, c⟩ := hx
      exact okD.rp (n := 0) (w := 100000) ⟨a, Nat.zero_le _, c⟩
    simp [r__law_is__2, hr, h]
  | int i =>
    have hr : (D.int i).rp := by
      obtain ⟨a, b, c⟩ := hx
      exact okD.rp (n := 0) (w := 100000) ⟨a, Nat.zero_le _, c⟩
    simp [r__law_is__2, hr, h]
  | bl b =>
    have hr : (D.bl b).rp := okD.rp (n := 0) (w := 0) okD_bl
    simp [r__law_is__2, hr, h]
  | non => simp [r__law_is__2, h]
theorem pu__law_is__3 (m : Nat) : ∀ ds R E, T__law_is (m + 1) ds R E → r__law_is__3 m (fun x _ => E x) (Ends0 R) (rho0 4 ds) := by
  rintro ds R E ⟨x, _, rfl, rfl, _, hx, h⟩
  simp only [Nat.add_sub_cancel] at hx
  cases x with
  | tup xs =>
    cases m with
    | zero => exact (okD_tup0 hx).elim
    | succ m =>
      obtain ⟨h1, h2⟩ := okD_tup_in hx
      simp [r__law_is__3, zip_self]
      refine ⟨sz_of (by omega), ?_⟩
      refine lc_all xs _ (fun _ => .bl true) rfl (fun y hy K hK => ?_) (fun ρ2 hρ => all_true h)
      simp [lcStep_s]
      exact ⟨h2 y hy, hK _ rfl⟩
  | lst xs =>
    cases m with
    | zero => exact (okD_lst0 hx).elim
    | succ m =>
      obtain ⟨h1, h2⟩ := okD_lst_in hx
      simp [r__law_is__3, zip_self]
      refine ⟨sz_of (by omega), ?_⟩
      refine lc_all xs _ (fun _ => .bl true) rfl (fun y hy K hK => ?_) (fun ρ2 hρ => all_true h)
      simp [lcStep_s]
      exact ⟨h2 y hy, hK _ rfl⟩
  | dct ks ds => have := hx.1; simp only [D.nice] at this; cases this
  | raw v => have := hx.1; simp only [D.nice] at this; cases this
  | fn v => have := hx.1; simp only [D.nice] at this; cases this
  | str y =>
    have hr : (D.str y).rp := by
      obtain ⟨a, b, c⟩ := hx
      exact okD.rp (n := 0) (w := 100000) ⟨a, Nat.zero_le _, c⟩
    simp [r__law_is__3, hr, h]
  | int i =>
    have hr : (D.int i).rp := by
      obtain ⟨a, b, c⟩ := hx
      exact okD.rp (n := 0) (w := 100000) ⟨a, Nat.zero_le _, c⟩
    simp [r__law_is__3, hr, h]
  | bl b =>
    have hr : (D.bl b).rp := okD.rp (n := 0) (w := 0) okD_bl
    simp [r__law_is__3, hr, h]
  | non => simp [r__law_is__3, h]
end DL
/-! DL27: the shared promises at their arguments -/
namespace DL
open PySem PySem.Spec PyProof.Rows L2
@[simp] theorem T_is_integer_s {x : D} {R : D → Prop} {E : Exn → Prop} : T_is_integer [x] R E = (x.tyN.isSome = true ∧ R (.bl x.isI)) := by
  apply propext
  constructor
  · rintro ⟨_, e, h⟩
    simp only [List.cons.injEq, D.tup.injEq, D.lst.injEq, D.int.injEq, D.bl.injEq, D.str.injEq, and_true] at e
    obtain rfl := e
    exact h
  · intro h
    exact ⟨x, rfl, h⟩
@[simp] theorem T_is_within_s {x : D} {a : Int} {b : Int} {R : D → Prop} {E : Exn → Prop} : T_is_within [x, .int a, .int b] R E = (x.tyN.isSome = true ∧ R (.bl (inR a b x))) := by
  apply propext
  constructor
  · rintro ⟨_, _, _, e, h⟩
    simp only [List.cons.injEq, D.tup.injEq, D.lst.injEq, D.int.injEq, D.bl.injEq, D.str.injEq, and_true] at e
    obtain ⟨rfl, rfl, rfl⟩ := e
    exact h
  · intro h
    exact ⟨x, a, b, rfl, h⟩
@[simp] theorem T_is_card_s {x : D} {R : D → Prop} {E : Exn → Prop} : T_is_card [x] R E = (x.tyN.isSome = true ∧ R (.bl (inR 0 51 x))) := by
  apply propext
  constructor
  · rintro ⟨_, e, h⟩
    simp only [List.cons.injEq, D.tup.injEq, D.lst.injEq, D.int.injEq, D.bl.injEq, D.str.injEq, and_true] at e
    obtain rfl := e
    exact h
  · intro h
    exact ⟨x, rfl, h⟩
@[simp] theorem T_is_suit_s {x : D} {R : D → Prop} {E : Exn → Prop} : T_is_suit [x] R E = (x.tyN.isSome = true ∧ R (.bl (inR 0 3 x))) := by
  apply propext
  constructor
  · rintro ⟨_, e, h⟩
    simp only [List.cons.injEq, D.tup.injEq, D.lst.injEq, D.int.injEq, D.bl.injEq, D.str.injEq, and_true] at e
    obtain rfl := e
    exact h
  · intro h
    exact ⟨x, rfl, h⟩
@[simp] theorem T_is_rank_s {x : D} {R : D → Prop} {E : Exn → Prop} : T_is_rank [x] R E = (x.tyN.isSome = true ∧ R (.bl (inR 0 12 x))) := by
  apply propext
  constructor
  · rintro ⟨_, e, h⟩
    simp only [List.cons.injEq, D.tup.injEq, D.lst.injEq, D.int.injEq, D.bl.injEq, D.str.injEq, and_true] at e
    obtain rfl := e
    exact h
  · intro h
    exact ⟨x, rfl, h⟩
@[simp] theorem T_raw_rank_s {i : Int} {R : D → Prop} {E : Exn → Prop} : T_raw_rank [.int i] R E = (R (.int (i / 4))) := by
  apply propext
  constructor
  · rintro ⟨_, e, h⟩
    simp only [List.cons.injEq, D.tup.injEq, D.lst.injEq, D.int.injEq, D.bl.injEq, D.str.injEq, and_true] at e
    obtain rfl := e
    exact h
  · intro h
    exact ⟨i, rfl, h⟩
@[simp] theorem T_raw_suit_s {i : Int} {R : D → Prop} {E : Exn → Prop} : T_raw_suit [.int i] R E = (R (.int (i - 4 * (i / 4)))) := by
  apply propext
  constructor
  · rintro ⟨_, e, h⟩
    simp only [List.cons.injEq, D.tup.injEq, D.lst.injEq, D.int.injEq, D.bl.injEq, D.str.injEq, and_true] at e
    obtain rfl := e
    exact h
  · intro h
    exact ⟨i, rfl, h⟩
@[simp] theorem T_raw_card_s {i : Int} {j : Int} {R : D → Prop} {E : Exn → Prop} : T_raw_card [.int i, .int j] R E = (R (.int (4 * i + j))) := by
  apply propext
  constructor
  · rintro ⟨_, _, e, h⟩
    simp only [List.cons.injEq, D.tup.injEq, D.lst.injEq, D.int.injEq, D.bl.injEq, D.str.injEq, and_true] at e
    obtain ⟨rfl, rfl⟩ := e
    exact h
  · intro h
    exact ⟨i, j, rfl, h⟩
@[simp] theorem T_is_tuple_of_s {x : D} {n : Int} {R : D → Prop} {E : Exn → Prop} : T_is_tuple_of [x, .int n] R E = (x.tyN.isSome = true ∧ R (.bl (match x with | .tup xs => decide ((xs.length : Int) = n) | _ => false))) := by
  apply propext
  constructor
  · rintro ⟨_, _, e, h⟩
    simp only [List.cons.injEq, D.tup.injEq, D.lst.injEq, D.int.injEq, D.bl.injEq, D.str.injEq, and_true] at e
    obtain ⟨rfl, rfl⟩ := e
    exact h
  · intro h
    exact ⟨x, n, rfl, h⟩
@[simp] theorem T_is_hand_s {x : D} {R : D → Prop} {E : Exn → Prop} : T_is_hand [x] R E = (okT x ∧ R (.bl (isHandD x))) := by
  apply propext
  constructor
  · rintro ⟨_, e, h⟩
    simp only [List.cons.injEq, D.tup.injEq, D.lst.injEq, D.int.injEq, D.bl.injEq, D.str.injEq, and_true] at e
    obtain rfl := e
    exact h
  · intro h
    exact ⟨x, rfl, h⟩
@[simp] theorem T_is_deck_s {x : D} {R : D → Prop} {E : Exn → Prop} : T_is_deck [x] R E = (okT x ∧ R (.bl (isDeckD x))) := by
  apply propext
  constructor
  · rintro ⟨_, e, h⟩
    simp only [List.cons.injEq, D.tup.injEq, D.lst.injEq, D.int.injEq, D.bl.injEq, D.str.injEq, and_true] at e
    obtain rfl := e
    exact h
  · intro h
    exact ⟨x, rfl, h⟩
@[simp] theorem T_check_card_s {x : D} {R : D → Prop} {E : Exn → Prop} : T_check_card [x] R E = (x.tyN.isSome = true ∧ inR 0 51 x = true ∧ R .non) := by
  apply propext
  constructor
  · rintro ⟨_, e, h⟩
    simp only [List.cons.injEq, D.tup.injEq, D.lst.injEq, D.int.injEq, D.bl.injEq, D.str.injEq, and_true] at e
    obtain rfl := e
    exact h
  · intro h
    exact ⟨x, rfl, h⟩
@[simp] theorem T_check_hand_s {x : D} {R : D → Prop} {E : Exn → Prop} : T_check_hand [x] R E = (okT x ∧ isHandD x = true ∧ R .non) := by
  apply propext
  constructor
  · rintro ⟨_, e, h⟩
    simp only [List.cons.injEq, D.tup.injEq, D.lst.injEq, D.int.injEq, D.bl.injEq, D.str.injEq, and_true] at e
    obtain rfl := e
    exact h
  · intro h
    exact ⟨x, rfl, h⟩
@[simp] theorem T_rank_of_s {i : Int} {R : D → Prop} {E : Exn → Prop} : T_rank_of [.int i] R E = (inR 0 51 (.int i) = true ∧ R (.int (i / 4))) := by
  apply propext
  constructor
  · rintro ⟨_, e, h⟩
    simp only [List.cons.injEq, D.tup.injEq, D.lst.injEq, D.int.injEq, D.bl.injEq, D.str.injEq, and_true] at e
    obtain rfl := e
    exact h
  · intro h
    exact ⟨i, rfl, h⟩
@[simp] theorem T_suit_of_s {i : Int} {R : D → Prop} {E : Exn → Prop} : T_suit_of [.int i] R E = (inR 0 51 (.int i) = true ∧ R (.int (i - 4 * (i / 4)))) := by
  apply propext
  constructor
  · rintro ⟨_, e, h⟩
    simp only [List.cons.injEq, D.tup.injEq, D.lst.injEq, D.int.injEq, D.bl.injEq, D.str.injEq, and_true] at e
    obtain rfl := e
    exact h
  · intro h
    exact ⟨i, rfl, h⟩
@[simp] theorem T__law_mixed_s {xs : List D} {R : D → Prop} {E : Exn → Prop} : T__law_mixed [.lst xs] R E = (xs.length ≤ 1000 ∧ ∀ ys : List D, ys.Perm xs → R (.lst ys)) := by
  apply propext
  constructor
  · rintro ⟨_, e, h⟩
    simp only [List.cons.injEq, D.tup.injEq, D.lst.injEq, D.int.injEq, D.bl.injEq, D.str.injEq, and_true] at e
    obtain rfl := e
    exact h
  · intro h
    exact ⟨xs, rfl, h⟩
@[simp] theorem T__law_some_s {xs : List D} {R : D → Prop} {E : Exn → Prop} : T__law_some [.lst xs] R E = (xs ≠ [] ∧ xs.length ≤ 1000 ∧ ∀ x ∈ xs, R x) := by
  apply propext
  constructor
  · rintro ⟨_, e, h⟩
    simp only [List.cons.injEq, D.tup.injEq, D.lst.injEq, D.int.injEq, D.bl.injEq, D.str.injEq, and_true] at e
    obtain rfl := e
    exact h
  · intro h
    exact ⟨xs, rfl, h⟩
@[simp] theorem T__law_draw_s {n : Int} {R : D → Prop} {E : Exn → Prop} : T__law_draw [.int n] R E = ((0 < n ∧ n < 2 ^ 200) ∧ ∀ i : Int, 0 ≤ i → i < n → R (.int i)) := by
  apply propext
  constructor
  · rintro ⟨m, e, h⟩
    simp only [List.cons.injEq, D.int.injEq, and_true] at e
    subst e
    exact h
  · exact fun h => ⟨n, rfl, h⟩
end DL
/-! DL28: more constructs: enumerate of a tuple, steps, extend, index, count, constants -/
namespace DL
open PySem PySem.Spec PyProof.Rows L2
/-! ### enumerate(tuple) -/
theorem meets_enumT (l : Addr) (items : Array Value) (n : Nat) (dct : Option Addr) (sl : Array (Option Value)) :
    Meets (Builtin.«enumerate.__new__» ⟨[.type "enumerate", .ref l], []⟩) (fun _ R s => s.heap.get? l = some { cls := .type "tuple", dict := dct, data := .seq items n, slots := sl } ∧
      R (.ok (.ret (.ref (s.heap.push { cls := .type "tuple_iterator", data := .fields #[.ref l, .int 0 0] }).objs.size)))
        { s with heap := (s.heap.push { cls := .type "tuple_iterator", data := .fields #[.ref l, .int 0 0] }).push { cls := .type "enumerate", data := .fields #[.none, .bool false, .ref s.heap.objs.size, rawInt 0, .none, .none] } }) :=
  .of_wp fun prog w A R s h => by
    obtain ⟨hp, g, d, tk, os⟩ := s; obtain ⟨hl, h⟩ := h
    have hsub := sub_enumerate
    have hL : Heap.IsTuple (Shared.heap ⟨hp, g, d, tk, os⟩) l items := ⟨_, hl, rfl, n, rfl⟩
    wp_walk using AutoSeq1.wpAny_loadPart' hl
    refine wpAny_stack_any fun st => wpAny_pure ?_
    split
    · rename_i c _ _ _ _ _
      cases (c == Value.type "enumerate")
      · wp_walk using AutoSeq1.wpAny_loadPart' hl, wpAny_pyIter_tuple hL
        exact ⟨_, rfl, h⟩
      · wp_walk using AutoSeq1.wpAny_loadPart' hl, wpAny_pyIter_tuple hL
        exact ⟨_, rfl, h⟩
    · wp_walk using AutoSeq1.wpAny_loadPart' hl, wpAny_pyIter_tuple hL
      exact ⟨_, rfl, h⟩

section
variable {prog : Program} {w : World} {A : Around} {E : Value → Shared → Prop} {s : Shared}
theorem call_enumT {l : Addr} {items : Array Value} {Q : Value → Shared → Prop} (hL : IsTup s.heap l items)
    (h : ∀ h', IsEnum h' (s.heap.objs.size + 1) s.heap.objs.size 0 .none → h'.IsTupleIter s.heap.objs.size l 0 → h'.objs.size = s.heap.objs.size + 2 →
      (∀ b o, s.heap.get? b = some o → h'.get? b = some o) → Q (.ref (s.heap.objs.size + 1)) { s with heap := h' }) :
    wpAny (model prog w) A (call (.type "enumerate") [.ref l]) Q E s := by
  obtain ⟨⟨c, dct, dt, sl⟩, hl, hc, n, hd⟩ := hL
  replace hc : c = .type "tuple" := hc
  replace hd : dt = .seq items n := hd
  subst hc hd
  refine callType_new F.called_enumerate (by decide) (F.typeCall_enumerate_1 _) (F.newCall_enumerate_1 _) (fun obj => F.args_object_init_2 obj _) F.entry_enumerate_new
    (meets_enumT l items n dct sl) ⟨hl, ?_⟩
  have hz : (s.heap.push { cls := .type "tuple_iterator", data := .fields #[.ref l, .int 0 0] }).objs.size = s.heap.objs.size + 1 := Heap.size_push ..
  show _ ∧ _
  rw [hz]
  have he : IsEnum ((s.heap.push { cls := .type "tuple_iterator", data := .fields #[.ref l, .int 0 0] }).push
      { cls := .type "enumerate", data := .fields #[.none, .bool false, .ref s.heap.objs.size, rawInt 0, .none, .none] }) (s.heap.objs.size + 1) s.heap.objs.size 0 .none := by
    have := Heap.get?_push_size (s.heap.push { cls := .type "tuple_iterator", data := .fields #[.ref l, .int 0 0] })
      (o := { cls := .type "enumerate", data := .fields #[.none, .bool false, .ref s.heap.objs.size, rawInt 0, .none, .none] }) rfl
    rw [hz] at this; exact this
  refine ⟨⟨_, he, rfl⟩, h _ he ⟨_, Heap.get?_push_of_some _ (Heap.get?_push_size _ rfl), rfl, rfl⟩ (by rw [Heap.size_push, hz]) fun b o x => Heap.get?_push_of_some _ (Heap.get?_push_of_some _ x)⟩
end
section
variable {prog : Program} {w : World} {A : Around} {E : Value → Shared → Prop} {s : Shared}
theorem pyNext_enumT_end {e it l : Addr} {i : Nat} {items : Array Value} {old : Value} {Q : Option Value → Shared → Prop} (hh : A.handled = none)
    (he : IsEnum s.heap e it i old) (hit : s.heap.IsTupleIter it l i) (hl : s.heap.IsTuple l items) (hx : items[i]? = none)
    (hQ : ∀ h', Heap.ExtBut it s.heap h' → Q none { s with heap := h' }) : wpAny (model prog w) A (pyNext (.ref e)) Q E s := by
  have hT : s.TypeIs (.ref e) "enumerate" := ⟨_, he, rfl⟩
  unfold pyNext
  refine wpAny_bind (wpAny_attempt (wpAny_callSpecial?_slot (name := Str.ofString "__next__") hT F.slot_enumerate_next
    (wpAny_call_entry F.slot_enumerate_next hT F.entry_enumerate_next ?_ (F.args_enumerate_next_1 _))))
  show wpAny _ _ (field (.ref e) 2 >>= _) _ _ _
  refine wpAny_bind (wpAny_field he rfl (x := .ref it) rfl ?_)
  refine wpAny_bind (wpAny_nextOf_tuple_end hh hit hl hx fun h' x he' hx' => ?_)
  obtain ⟨o, ho, hc⟩ := hx'
  refine wpAny_bind (wpAny_isInstance (T := "StopIteration") (b := true) ⟨o, ho, hc⟩ isSubtype_stop ?_)
  exact wpAny_pure (hQ _ he')
end
/-- the tuple at a as it stands at each turn, each item in a new pair -/
def IteT (K : PySem.W.Frag) (a : Addr) : It :=
  ⟨fun i H => ∃ (xs : List V) (x : V), SqT K H a xs ∧ xs[i]? = some x, fun i H v H' => ∃ T x, v = .ref T ∧ H T = none ∧ H' = upd H T (.tup [.int (i : Nat), x]) ∧ ∀ xs, SqT K H a xs → xs[i]? = some x, fun i H => ∃ xs : List V, SqT K H a xs ∧ xs.length ≤ i⟩
theorem turn_enumT {P : Program} {w : World} {K : PySem.W.Frag} {elts : List Expr} {kk : Nat} {tpos : Pos} (a e it : Addr) (hai : a ≠ it) (hae : a ≠ e) :
    Turn P w K (.Tuple elts kk tpos) (IteT K a) [e, it] e (fun i h => (∃ old, IsEnum h e it ((i : Nat) : Int) old) ∧ h.IsTupleIter it a i ∧ e ≠ it) where
  mem := by simp
  obj := fun i h st b hb => by
    obtain ⟨⟨old, he⟩, ⟨o, ho, hc, hd⟩, _⟩ := st
    have e' : b = e ∨ b = it := by simpa using hb
    rcases e' with z | z
    · rw [z]; exact ⟨_, he, fun v q => nomatch q⟩
    · rw [z]; exact ⟨o, ho, fun v q => by rw [hd] at q; cases q⟩
  keep := fun i h h' st k => let ⟨⟨old, he⟩, hi, hne⟩ := st; ⟨⟨old, k e (by simp) _ he⟩, hi.at fun o q => k it (by simp) o q, hne⟩
  item := by
    intro X hP hw hK hc i pins s σ H E I hf st hg
    subst hP hw hK
    obtain ⟨⟨old, he⟩, hit, hne⟩ := st
    obtain ⟨xs, x, hq, hx⟩ := hg
    obtain ⟨its, rv, p, hz⟩ := I.tuple hq
    obtain ⟨u, hu, ru⟩ := rv.get hx
    have hel : e < s.heap.objs.size := Heap.lt_size he
    have hil : it < s.heap.objs.size := by obtain ⟨_, q, _⟩ := hit; exact Heap.lt_size q
    have hi2 : i < its.toArray.size := by
      have := (List.getElem?_eq_some_iff.mp hu).1
      simpa using this
    have hef : e ∉ [it, a] := by
      intro z
      rcases List.mem_cons.mp z with z | z
      · exact hne z
      · rcases List.mem_cons.mp z with z | z
        · exact hae z.symm
        · cases z
    refine wpAny_pyNext_enum_itemD (Draws.tuple (prog := X.prog) (w := X.w) (A := X.A.in1) (I.ok.hd hc) it a hai its.toArray) he ⟨hit, p⟩ hi2 hne hef fun u' h' tk hu' ho hst hT hsz hk => ?_
    have eu : u' = u := by
      have : its.toArray[i]? = some u := by simpa using hu
      rw [this] at hu'
      exact (Option.some.inj hu').symm
    subst eu
    obtain ⟨hit', _⟩ := hst
    refine ⟨_, rfl, wpAny_letOwnedTupleGo_enum (s := { s with heap := h', toks := tk + 1 }) ho fun h'' he' sb => ?_⟩
    have hT2 : h''.get? s.heap.objs.size = some { cls := .type "tuple", data := .seq #[.int i tk, u'] } := (sb.2 _ (Nat.ne_of_gt hel)).trans hT
    have new : ObjOk X.prog X.w (upd H s.heap.objs.size (.tup [.int (i : Nat), x])) h'' s.heap.objs.size (.tup [.int (i : Nat), x]) :=
      ⟨by show 2 ≤ sizeLine; decide, [.int i tk, u'], .cons ⟨_, rfl⟩ (.cons ru .nil), ⟨_, hT2, rfl, _, rfl⟩⟩
    have I1 : Inv X pins σ (upd H s.heap.objs.size (.tup [.int (i : Nat), x])) { s with heap := h'', toks := tk + 1 } :=
      I.turnedNew (ch := [e, it]) (fun b ob hb q => (sb.2 b (fun z => hb (by simp [z]))).trans (hk b ob (fun z => hb (by simp [z])) (fun z => hb (by simp [z])) q)) hf (Nat.le_refl _) new
    refine ⟨.ref s.heap.objs.size, _, I1, rfl, ⟨_, x, rfl, I.hok.fresh (Nat.le_refl _), rfl, fun ys hy => by rw [I.tuple_inj hy hq]; exact hx⟩, ⟨⟨u', ?_⟩, hit'.at fun o q => (sb.2 it (Ne.symm hne)).trans q, hne⟩, fun b hb => ?_⟩
    · have e1 : ((i + 1 : Nat) : Int) = (i : Int) + 1 := by omega
      rw [e1]; exact he'
    · have hb' : b < s.heap.objs.size := by
        have e' : b = e ∨ b = it := by simpa using hb
        rcases e' with z | z
        · rw [z]; exact hel
        · rw [z]; exact hil
      rw [upd_ne (Nat.ne_of_lt hb')]
      exact (hf b hb).1
  done := by
    intro X hP hw hK hc i pins s σ H E I hf st hg
    subst hP hw hK
    obtain ⟨⟨old, he⟩, hit, hne⟩ := st
    obtain ⟨xs, hq, hx⟩ := hg
    obtain ⟨its, rv, p, hz⟩ := I.tuple hq
    obtain ⟨f0, f1, f2, f3, f4, f5⟩ := hf it (by simp)
    have hl := rv.length
    refine pyNext_enumT_end (I.ok.hd hc) he hit p (by simp; omega) fun h' eb => ⟨rfl, I.turned (t' := s.toks) (fun b o hb q => eb b o hb q) f0 f1 f3 f4 f5⟩
  self := fun A i s Q E st h => let ⟨⟨_, he⟩, _⟩ := st; wpAny_pyIter_enum he h
def iEnumA (K : PySem.W.Frag) (ta : TA) : TI := fun σ H R => ta σ H fun vs H1 => ∃ a xs, vs = [.ref a] ∧ ((SqL K H1 a xs ∧ R (Ite K a) H1) ∨ (SqT K H1 a xs ∧ R (IteT K a) H1))
theorem pi_enumA {X : Cx} {e : Expr} {ta : TA} {p pos tpos : Pos} {elts : List Expr} {kk : Nat} (hg : Gl X "enumerate") (hm : X.mg "enumerate" = none) (ha : PA X [e] ta) (hs : starEach [e] X.env = [(false, eval e X.env)] := by rfl) :
    PI X (.Tuple elts kk tpos) (.Call (.Name "enumerate" p) [e] [] pos) (iEnumA X.K ta) := by
  refine ⟨fun pins s σ H R I h => ?_⟩
  refine Call_ (ld_blt I hg hm boot_enumerate (PyProof.Rows.callWith_type1 (thn (ha.run pos pins s σ H _ I h) fun us s1 ⟨vs, H1, I1, r1, q1⟩ => ?_) hs rfl))
  obtain ⟨a, xs, ex, q1⟩ := q1
  subst ex
  cases r1 with
  | cons r rr =>
    cases rr
    cases r
    rcases q1 with ⟨hq, q⟩ | ⟨hq, q⟩
    · obtain ⟨its, rv, p', hz⟩ := I1.list hq
      refine call_enumerate_list p'.isList fun h' he hit hsz hk => wpAny_pyIter_enum he ?_
      have I2 : Inv X pins σ H1 { s1 with heap := h' } := I1.kept (t' := s1.toks) hk
      refine ⟨s1.heap.objs.size + 1, [s1.heap.objs.size + 1, s1.heap.objs.size], _, _, H1, rfl, I2, turn_enum a (s1.heap.objs.size + 1) s1.heap.objs.size, ⟨⟨.none, he⟩, hit, Nat.succ_ne_self _⟩, fun b hb => ?_, q⟩
      have e' : b = s1.heap.objs.size + 1 ∨ b = s1.heap.objs.size := by simpa using hb
      have hle : s1.heap.objs.size ≤ b := by
        rcases e' with z | z
        · rw [z]; exact Nat.le_add_right _ _
        · rw [z]; exact Nat.le_refl _
      exact I1.fpOk hle (I1.hok.fresh hle)
    · obtain ⟨its, rv, p', hz⟩ := I1.tuple hq
      have hlt : a < s1.heap.objs.size := by obtain ⟨_, q, _⟩ := p'; exact Heap.lt_size q
      refine call_enumT p' fun h' he hit hsz hk => wpAny_pyIter_enum he ?_
      have I2 : Inv X pins σ H1 { s1 with heap := h' } := I1.kept (t' := s1.toks) hk
      refine ⟨s1.heap.objs.size + 1, [s1.heap.objs.size + 1, s1.heap.objs.size], _, _, H1, rfl, I2, turn_enumT a (s1.heap.objs.size + 1) s1.heap.objs.size (Nat.ne_of_lt hlt) (Nat.ne_of_lt (Nat.lt_succ_of_lt hlt)), ⟨⟨.none, he⟩, hit, Nat.succ_ne_self _⟩, fun b hb => ?_, q⟩
      have e' : b = s1.heap.objs.size + 1 ∨ b = s1.heap.objs.size := by simpa using hb
      have hle : s1.heap.objs.size ≤ b := by
        rcases e' with z | z
        · rw [z]; exact Nat.le_add_right _ _
        · rw [z]; exact Nat.le_refl _
      exact I1.fpOk hle (I1.hok.fresh hle)
theorem good_enumT {K : PySem.W.Frag} {S : Hp} {a : Addr} {xs : List V} {ds : List D} (h : TupAt K S a xs) (r : Reps K S xs ds) : GoodIt K S (IteT K a) (enumD ds) := by
  intro i S' H' e1 e2
  have hq : SqT K H' a xs := (TupAt.up e2 (TupAt.up e1 h)).sq
  have l1 := r.length
  rw [enumD_len]
  refine ⟨fun z => ⟨xs, hq, by omega⟩, fun z => ⟨xs, _, hq, List.getElem?_eq_getElem (show i < xs.length by omega)⟩, fun x H'' z y => ?_⟩
  obtain ⟨T, u, rfl, hT, rfl, f1⟩ := y
  obtain ⟨d, a1, a2⟩ := r.get (f1 xs hq)
  exact ⟨_, enumD_get a1, .inr ⟨T, [.int (i : Nat), u], [.int (i : Nat), d], rfl, hT, rfl, rfl, .cons (.int _) (.cons (a2.up e1) .nil)⟩⟩
def enumAA (vs : List D) (k : List D → Prop) : Prop := match vs with
  | [.lst xs] => k (enumD xs)
  | [.tup xs] => k (enumD xs)
  | _ => False
@[simp] theorem enumAA_l {xs : List D} {k : List D → Prop} : enumAA [.lst xs] k = k (enumD xs) := rfl
@[simp] theorem enumAA_t {xs : List D} {k : List D → Prop} : enumAA [.tup xs] k = k (enumD xs) := rfl
@[simp] def dEnumA (r : DA) : DI := fun E ρ Q => r E ρ fun vs ρ1 => enumAA vs fun xs => Q xs ρ1
section
variable {X : Cx} {RK : Res → Prop} {W : WX} {pos p1 tpos : Pos} {tg e e2 : Expr} {es elts : List Expr} {d d' : DT} {r : DA} {kk : Nat}
theorem di_enumA (hm : X.mg "enumerate" = none) (ha : DAs X RK W [e] r) (hg : Gl X "enumerate" := by rfl) (hs : starEach [e] X.env = [(false, eval e X.env)] := by rfl) :
    DIt X RK W (.Tuple elts kk tpos) (.Call (.Name "enumerate" p1) [e] [] pos) (dEnumA r) := pi_weak (pi_enumA hg hm ha hs) (by
  rintro σ H Rh ⟨g, S, ρ, Q, E, R, h, hq, hx⟩
  refine ⟨g, S, ρ, _, E, R, h, fun vs H1 S1 ρ1 xs R1 e1 r1 q1 => ?_, hx⟩
  unfold enumAA at q1
  split at q1
  · cases r1 with
    | cons a r1 =>
      cases r1
      cases a with
      | lst a1 a2 => exact ⟨_, _, rfl, .inl ⟨SqL.of (R1.sub _ _ a1), hq _ _ H1 S1 ρ1 R1 e1 (good_enumL a1 a2) q1⟩⟩
  · cases r1 with
    | cons a r1 =>
      cases r1
      cases a with
      | tup a1 a2 => exact ⟨_, _, rfl, .inr ⟨(TupAt.up R1.sub a1).sq, hq _ _ H1 S1 ρ1 R1 e1 (good_enumT a1 a2) q1⟩⟩
  · exact q1.elim)
end
end DL
/-! DL29: slices with steps, range of three, extend, index, count, constants -/
namespace DL
open PySem PySem.Spec PyProof.Rows L2
open HT
/-! ### xs[a:b:c] -/
def pickT {α : Type} (xs : List α) (lo hi : Option Int) (c : Int) : List α :=
  (List.range (Builtin.Slice.slicePlaces (Builtin.Slice.sliceAdjust lo hi c xs.length).1 (Builtin.Slice.sliceAdjust lo hi c xs.length).2 c)).filterMap fun (m : Nat) => xs[((Builtin.Slice.sliceAdjust lo hi c xs.length).1 + (m : Int) * c).toNat]?
def pickL {α : Type} (xs : List α) (lo hi : Option Int) (c : Int) : List α :=
  (sliceRange (sliceBounds lo hi (some c) xs.length).1 (sliceBounds lo hi (some c) xs.length).2.1 (sliceBounds lo hi (some c) xs.length).2.2).filterMap fun i => xs[i]?
theorem paired_pick {α β γ : Type} {R : α → β → Prop} {xs : List α} {ys : List β} (hg : ∀ i : Nat, (xs[i]? = none ∧ ys[i]? = none) ∨ ∃ x y, xs[i]? = some x ∧ ys[i]? = some y ∧ R x y) (f : γ → Nat) : ∀ is : List γ, Paired R (is.filterMap fun m => xs[f m]?) (is.filterMap fun m => ys[f m]?)
  | [] => .nil
  | i :: is => by
    have ih := paired_pick hg f is
    rcases hg (f i) with ⟨a, b⟩ | ⟨x, y, a, b, r⟩
    · simp only [List.filterMap_cons, a, b]; exact ih
    · simp only [List.filterMap_cons, a, b]; exact .cons r ih
theorem Reps.pick {K : PySem.W.Frag} {S : Hp} {xs : List V} {ds : List D} (r : Reps K S xs ds) {γ : Type} (f : γ → Nat) : ∀ is : List γ, Reps K S (is.filterMap fun m => xs[f m]?) (is.filterMap fun m => ds[f m]?)
  | [] => .nil
  | i :: is => by
    have ih := Reps.pick r f is
    have hl := r.length
    by_cases h : f i < xs.length
    · obtain ⟨d, h1, h2⟩ := r.get (List.getElem?_eq_getElem h)
      simp only [List.filterMap_cons, List.getElem?_eq_getElem h, h1]
      exact .cons h2 ih
    · have a : xs[f i]? = none := List.getElem?_eq_none (by omega)
      have b : ds[f i]? = none := List.getElem?_eq_none (by omega)
      simp only [List.filterMap_cons, a, b]
      exact ih
theorem vals_pick {xs : List V} {us : List Value} (r : Vals xs us) {γ : Type} (f : γ → Nat) (is : List γ) : Vals (is.filterMap fun m => xs[f m]?) (is.filterMap fun m => us[f m]?) := by
  refine paired_pick (fun i => ?_) f is
  have hl := r.length
  by_cases h : i < xs.length
  · obtain ⟨u, h1, h2⟩ := r.get (List.getElem?_eq_getElem h)
    exact .inr ⟨_, u, List.getElem?_eq_getElem h, h1, h2⟩
  · exact .inl ⟨List.getElem?_eq_none (by omega), List.getElem?_eq_none (by omega)⟩
section
variable {prog : Program} {w : World} {A : Around} {E : Value → Shared → Prop} {s : Shared}
theorem sliceApplied_step {sl : Addr} {vl vu vs : Value} {lo hi : Option Int} {c : Int} {n : Nat} {Q : Int × Int × Nat → Shared → Prop} (hs : s.heap.IsSliceOf sl vl vu vs) (pl : IsPart vl lo) (pu : IsPart vu hi) (ps : IsPart vs (some c)) (hc : c ≠ 0)
    (h : Q ((Builtin.Slice.sliceAdjust lo hi c n).1, c, Builtin.Slice.slicePlaces (Builtin.Slice.sliceAdjust lo hi c n).1 (Builtin.Slice.sliceAdjust lo hi c n).2 c) s) : wpAny (model prog w) A (Builtin.Slice.sliceApplied (.ref sl) (pure (n : Int))) Q E s := by
  obtain ⟨os, hos, hcs, hds⟩ := id hs
  unfold Builtin.Slice.sliceApplied Builtin.Slice.sliceFields
  refine wpAny_bind (wpAny_bind (wpAny_field hos hds (x := vl) rfl (wpAny_bind (wpAny_field hos hds (x := vu) rfl (wpAny_bind (wpAny_field hos hds (x := vs) rfl (wpAny_pure ?_)))))))
  refine wpAny_bind (slicePart_ ps ?_)
  show wpAny _ _ (if (c == 0) = true then _ else _) _ _ s
  rw [if_neg (by simpa using hc)]
  refine wpAny_bind (slicePart_ pl (wpAny_bind (slicePart_ pu (wpAny_bind (wpAny_pure ?_)))))
  exact wpAny_pure h
theorem getItem_tuple_step {t sl : Addr} {items : Array Value} {vl vu vs : Value} {lo hi : Option Int} {c : Int} {Q : Value → Shared → Prop} (ht : IsTup s.heap t items) (hs : s.heap.IsSliceOf sl vl vu vs) (pl : IsPart vl lo) (pu : IsPart vu hi) (ps : IsPart vs (some c))
    (hc : c ≠ 0) (hc1 : c ≠ 1) (hk : (pickT items.toList lo hi c).length ≤ sizeLine)
    (h : Q (.ref s.heap.objs.size) { s with heap := s.heap.push { cls := .type "tuple", data := .seq (pickT items.toList lo hi c).toArray } }) : wpAny (model prog w) A (getItem (.ref t) (.ref sl)) Q E s := by
  obtain ⟨os, hos, hcs, hds⟩ := id hs
  have hTs : s.TypeIs (.ref sl) "slice" := ⟨os, hos, hcs⟩
  have htake : sizeOk (.seq (pickT items.toList lo hi c).toArray) := by
    show (pickT items.toList lo hi c).toArray.size ≤ sizeLine
    rw [List.size_toArray]; exact hk
  unfold getItem
  try with_reducible refine wpAny_holding ?_
  first | refine wpAny_bind (wpAny_pure ?_) | skip
  refine wpAny_bind (wpAny_sequenceKey ht.typeIs (by decide) ?_)
  refine wpAny_bind (wpAny_callSpecial?_slot (name := Str.ofString "__getitem__") ht.typeIs PyProof.Rows.slot_tuple_getitem
    (wpAny_call_entry PyProof.Rows.slot_tuple_getitem ht.typeIs entry_tuple_getitem ?_ (args_tuple_getitem _ _)))
  show wpAny _ _ (Builtin.Tuple.tupleItemsOf (.ref t) >>= _) _ _ s
  refine wpAny_bind (tupleItemsOf_ ht ?_)
  refine wpAny_bind (wpAny_typeOf hTs ?_)
  rw [if_pos (by decide)]
  refine wpAny_bind (sliceApplied_step hs pl pu ps hc ?_)
  have hno : ∀ (a : Int) (k : Nat), ¬ ((a == 0 && c == 1 && k == items.size) = true) := by
    intro a k q
    rw [Bool.and_eq_true, Bool.and_eq_true] at q
    exact hc1 (eq_of_beq q.1.2)
  simp only [if_neg (hno _ _)]
  have e : ((List.range (Builtin.Slice.slicePlaces (Builtin.Slice.sliceAdjust lo hi c items.size).1 (Builtin.Slice.sliceAdjust lo hi c items.size).2 c)).filterMap fun (m : Nat) => items[((Builtin.Slice.sliceAdjust lo hi c items.size).1 + (m : Int) * c).toNat]?).toArray = (pickT items.toList lo hi c).toArray := by
    unfold pickT
    rw [Array.length_toList]
    simp only [Array.getElem?_toList]
  rw [e]
  first
    | exact wpAny_bind (m := Builtin.Tuple.tupleExact _) (wpAny_newObj_type (wpAny_pure ⟨_, rfl, wpAny_pure h⟩) htake)
    | exact wpAny_bind (m := Builtin.Tuple.tupleExact _) (wpAny_newObj_type (wpAny_bind (wpAny_pure (wpAny_pure ⟨_, rfl, wpAny_pure h⟩))) htake)
    | exact wpAny_bind (wpAny_bind (m := Builtin.Tuple.tupleExact _) (wpAny_newObj_type (wpAny_pure (wpAny_pure ⟨_, rfl, wpAny_pure h⟩)) htake))
    | exact wpAny_bind (wpAny_bind (m := Builtin.Tuple.tupleExact _) (wpAny_newObj_type (wpAny_pure ⟨_, rfl, wpAny_pure h⟩) htake))
end
def rStep (K : PySem.W.Frag) : V → Option Int → Option Int → Int → Hp → VK → Prop := fun x lo hi c H Q => c ≠ 0 ∧ c ≠ 1 ∧ ∃ a xs, x = .ref a ∧
  ((SqL K H a xs ∧ (pickL xs lo hi c).length ≤ sizeLine ∧ ∀ p, H p = none → Q (.ref p) (upd H p (.lst (pickL xs lo hi c)))) ∨ (SqT K H a xs ∧ (pickT xs lo hi c).length ≤ sizeLine ∧ ∀ p, H p = none → Q (.ref p) (upd H p (.tup (pickT xs lo hi c)))))
def tStep (K : PySem.W.Frag) (te : TE) (tl th ts : TO) : TE := fun σ H Q => te σ H fun x H1 => tl σ H1 fun lo H2 => th σ H2 fun hi H3 => ts σ H3 fun st H4 => ∃ c, st = some c ∧ rStep K x lo hi c H4 Q
section
variable {X : Cx} {e st : Expr} {lo hi : Option Expr} {te : TE} {tl th ts : TO} {p3 pos : Pos}
theorem pe_step (he : PE X e te) (hl : PO X lo tl) (hh : PO X hi th) (hst : PO X (some st) ts)
    (hsub : ∀ a b : Addr, ∃ ops, subscripted (.Slice lo hi (some st) p3) false (.ref a) (.ref b) = operate ops (getItem (.ref a) (.ref b)) := by intro _ _; exact ⟨_, by with_unfolding_all rfl⟩) : PE X (.Subscript e (.Slice lo hi (some st) p3) pos) (tStep X.K te tl th ts) := by
  refine ⟨fun pins s σ H Q I h => ?_⟩
  refine Subscript_ (thn (he.run pins s σ H _ I h) fun v s1 ⟨x, H1, I1, r1, q1⟩ => ?_)
  refine wpAny_Slice (thn (hl.run pins s1 σ H1 _ I1 q1) fun vl s2 ⟨l, H2, I2, pl, q2⟩ => thn (hh.run pins s2 σ H2 _ I2 q2) fun vu s3 ⟨u, H3, I3, pu, q3⟩ => ?_)
  refine thn (hst.run pins s3 σ H3 _ I3 q3) fun vs s4 ⟨o, H4, I4, ps, c, eo, hc0, hc1, a, xs, ex, q4⟩ => ?_
  subst eo ex
  cases r1
  have I5 : Inv X pins σ H4 { s4 with heap := s4.heap.push { cls := .type "slice", data := .fields #[vl, vu, vs] } } := I4.kept (t' := s4.toks) fun b ob q => Heap.get?_push_of_some _ q
  show wpAny (model X.prog X.w) X.A (subscriptTail e (.Slice lo hi (some st) p3) (.ref a) (.ref s4.heap.objs.size)) (EP X pins σ Q) X.xe { s4 with heap := s4.heap.push { cls := .type "slice", data := .fields #[vl, vu, vs] } }
  rcases q4 with ⟨hx, hk, q⟩ | ⟨hx, hk, q⟩
  · obtain ⟨its, r, ht, hz⟩ := I5.list hx
    have hlen := r.length
    obtain ⟨ops, hops⟩ := hsub a s4.heap.objs.size
    refine tail_any (ops := ops) ht.isList.typeIs (PySem.slot_list_getitem.lookup) ?_ hops
    refine wpAny_getItem_list_slice ht.isList (Heap.IsSliceOf.new _ vl vu vs) pl pu ps (by simpa using hc0) ?_ (by rw [List.size_toArray]; omega)
    have e1 : slicePick its.toArray l u (some c) = (pickL its l u c).toArray := by
      unfold slicePick pickL
      rw [List.size_toArray]
      simp
    rw [e1]
    have r2 : Vals (pickL xs l u c) (pickL its l u c) := by unfold pickL; rw [hlen]; exact vals_pick r _ _
    refine ⟨.ref _, _, I5.laid (t' := s4.toks) (o := .lst (pickL xs l u c)) (fun b ob q => Heap.get?_push_of_some _ q) (Nat.le_refl _) ?_, rfl, q _ (I5.hok.fresh (Nat.le_refl _))⟩
    exact ⟨hk, _, 0, r2, Heap.get?_push_size _ rfl⟩
  · obtain ⟨its, r, ht, hz⟩ := I5.tuple hx
    have hlen := r.length
    have r2 : Vals (pickT xs l u c) (pickT its l u c) := by unfold pickT; rw [hlen]; exact vals_pick r _ _
    obtain ⟨ops, hops⟩ := hsub a s4.heap.objs.size
    refine tail_any (ops := ops) ht.typeIs (PyProof.Rows.slot_tuple_getitem.lookup) ?_ hops
    refine getItem_tuple_step ht (Heap.IsSliceOf.new _ vl vu vs) pl pu ps hc0 hc1 (by rw [← r2.length]; exact hk) ?_
    refine ⟨.ref _, _, I5.laid (t' := s4.toks) (o := .tup (pickT xs l u c)) (fun b ob q => Heap.get?_push_of_some _ q) (Nat.le_refl _) ?_, rfl, q _ (I5.hok.fresh (Nat.le_refl _))⟩
    exact ⟨hk, _, r2, IsTup.new _ _⟩
end
def fStep (x : D) (lo hi st : Option Int) (k : D → Prop) : Prop := match st, x with
  | some c, .lst xs => c ≠ 0 ∧ c ≠ 1 ∧ (pickL xs lo hi c).length ≤ sizeLine ∧ k (.lst (pickL xs lo hi c))
  | some c, .tup xs => c ≠ 0 ∧ c ≠ 1 ∧ (pickT xs lo hi c).length ≤ sizeLine ∧ k (.tup (pickT xs lo hi c))
  | _, _ => False
@[simp] theorem fStep_l {xs : List D} {lo hi : Option Int} {c : Int} {k : D → Prop} : fStep (.lst xs) lo hi (some c) k = (c ≠ 0 ∧ c ≠ 1 ∧ (pickL xs lo hi c).length ≤ sizeLine ∧ k (.lst (pickL xs lo hi c))) := rfl
@[simp] theorem fStep_t {xs : List D} {lo hi : Option Int} {c : Int} {k : D → Prop} : fStep (.tup xs) lo hi (some c) k = (c ≠ 0 ∧ c ≠ 1 ∧ (pickT xs lo hi c).length ≤ sizeLine ∧ k (.tup (pickT xs lo hi c))) := rfl
@[simp] def dStep (d : DT) (l h s : DO) : DT := fun E ρ Q => d E ρ fun x ρ1 => l E ρ1 fun lo ρ2 => h E ρ2 fun hi ρ3 => s E ρ3 fun st ρ4 => fStep x lo hi st fun z => Q z ρ4
section
variable {X : Cx} {RK : Res → Prop} {W : WX} {pos p2 : Pos} {e st : Expr} {d : DT} {lo hi : Option Expr} {l h s : DO}
theorem de_step (he : DE X RK W e d) (hl : DOp X RK W lo l) (hh : DOp X RK W hi h) (hs : DOp X RK W (some st) s)
    (hsub : ∀ a b : Addr, ∃ ops, subscripted (.Slice lo hi (some st) p2) false (.ref a) (.ref b) = operate ops (getItem (.ref a) (.ref b)) := by intro _ _; exact ⟨_, by with_unfolding_all rfl⟩) : DE X RK W (.Subscript e (.Slice lo hi (some st) p2) pos) (dStep d l h s) := pe_weak (pe_step he hl hh hs hsub) (by
  rintro σ H Qh ⟨g, S, ρ, Q, E, R, h, hq, hx⟩
  refine ⟨g, S, ρ, _, E, R, h, fun v H1 S1 ρ1 x R1 e1 r1 q1 => ⟨g, S1, ρ1, _, E, R1, q1, fun o H2 S2 ρ2 R2 e2 q2 => ⟨g, S2, ρ2, _, E, R2, q2, fun o' H3 S3 ρ3 R3 e3 q3 => ⟨g, S3, ρ3, _, E, R3, q3, fun o'' H4 S4 ρ4 R4 e4 q4 => ?_, hx.up ((e1.trans e2).trans e3)⟩, hx.up (e1.trans e2)⟩, hx.up e1⟩, hx⟩
  have e14 := (e2.trans e3).trans e4
  have r4 := r1.up e14
  cases o'' with
  | none => exact q4.elim
  | some c =>
    cases x with
    | lst xs =>
      obtain ⟨c0, c1, hk, q5⟩ := q4
      cases r4 with
      | @lst a vs _ a1 a2 =>
        have r2 : Reps X.K S4 (pickL vs o o' c) (pickL xs o o' c) := by unfold pickL; rw [a2.length]; exact a2.pick _ _
        refine ⟨c, rfl, c0, c1, _, _, rfl, .inl ⟨SqL.of (R4.sub _ _ a1), by rw [r2.length]; exact hk, fun p hp => ?_⟩⟩
        obtain ⟨R5, e5⟩ := R4.alloc (o := .lst _) hp
        exact hq _ _ _ ρ4 _ R5 ((e1.trans e14).trans e5) (.lst upd_same (r2.up e5)) q5
    | tup xs =>
      obtain ⟨c0, c1, hk, q5⟩ := q4
      cases r4 with
      | @tup a vs _ a1 a2 =>
        have r2 : Reps X.K S4 (pickT vs o o' c) (pickT xs o o' c) := by unfold pickT; rw [a2.length]; exact a2.pick _ _
        refine ⟨c, rfl, c0, c1, _, _, rfl, .inr ⟨(TupAt.up R4.sub a1).sq, by rw [r2.length]; exact hk, fun p hp => ?_⟩⟩
        obtain ⟨R5, e5⟩ := R4.alloc (o := .tup _) hp
        exact hq _ _ _ ρ4 _ R5 ((e1.trans e14).trans e5) (.tup (.inl upd_same) (r2.up e5)) q5
    | _ => exact q4.elim)
end
end DL
/-! DL30: range of three, extend, index, count, constants -/
namespace DL
open PySem PySem.Spec PyProof.Rows L2
/-! ### for x in range(a, b, c) -/
def rngC (lo c : Int) (n : Nat) : List Int := (List.range n).map fun k : Nat => lo + (k : Int) * c
theorem rngC_len (lo c : Int) (n : Nat) : (rngC lo c n).length = n := by unfold rngC; simp
theorem good_rngC {K : PySem.W.Frag} {S : Hp} (lo c : Int) (n : Nat) : GoodIt K S (Itc lo c n) ((rngC lo c n).map D.int) := by
  intro i S' H' e1 e2
  rw [List.length_map, rngC_len]
  refine ⟨fun z => z, fun z => z, fun x H'' z y => ?_⟩
  obtain ⟨rfl, rfl⟩ := y
  refine ⟨.int (lo + (i : Nat) * c), ?_, .inl ⟨rfl, .int _⟩⟩
  unfold rngC
  rw [List.map_map, List.getElem?_map, List.getElem?_range z]; rfl
def rg3 (vs : List D) (k : List Int → Prop) : Prop := match vs with
  | [.int i, .int j, .int c] => ∃ n, RgC i j c n ∧ k (rngC i c n)
  | _ => False
@[simp] theorem rg3_s {i j c : Int} {k : List Int → Prop} : rg3 [.int i, .int j, .int c] k = ∃ n, RgC i j c n ∧ k (rngC i c n) := rfl
@[simp] def dRng3I (r : DA) : DI := fun E ρ Q => r E ρ fun vs ρ1 => rg3 vs fun ns => Q (ns.map D.int) ρ1
section
variable {X : Cx} {RK : Res → Prop} {W : WX} {pos p1 tpos p2 p3 : Pos} {tg e e2 e3 a b c : Expr} {es elts : List Expr} {d d' da db : DT} {r : DA} {x : Str}
theorem di_rng3 (hm : X.mg "range" = none) (ha : DAs X RK W [a, b, c] r) (hg : Gl X "range" := by rfl)
    (hs : starEach [a, b, c] X.env = (false, eval a X.env) :: starEach [b, c] X.env := by rfl) (hpl : (backTo pos (starEach [b, c] X.env)).any (·.1) = false := by rfl) :
    DIt X RK W tg (.Call (.Name "range" p1) [a, b, c] [] pos) (dRng3I r) := pi_weak (pi_range3 hg hm ha hs hpl) (by
  rintro σ H Rh ⟨g, S, ρ, Q, E, R, h, hq, hx⟩
  refine ⟨g, S, ρ, _, E, R, h, fun vs H1 S1 ρ1 xs R1 e1 r1 q1 => ?_, hx⟩
  unfold rg3 at q1
  split at q1
  · obtain ⟨n, h1, h2⟩ := q1
    cases r1 with
    | cons u r1 =>
      cases r1 with
      | cons v r1 =>
        cases r1 with
        | cons w r1 =>
          cases r1; cases u; cases v; cases w
          exact ⟨_, _, _, n, rfl, h1, hq _ _ H1 S1 ρ1 R1 e1 (good_rngC _ _ n) h2⟩
  · exact q1.elim)
/-! ### x.extend(e) -/
def dExt (i : Nat) (d : DT) : DT := fun E ρ Q => (∃ p ds, ρ[i]? = some (.own p ds)) ∧ d E ρ fun y ρ1 => match ρ1[i]?, y with
  | some (.own p ds), .lst ys => ds.length + ys.length ≤ sizeLine ∧ Q .non (ρ1.set i (.own p (ds ++ ys)))
  | _, _ => False
theorem de_extend (i : Nat) (he : DE X RK W e d) (hN : X.N[i]? = some x := by rfl) (hv : Vis X.env.scope x := by first | exact Or.inl rfl | exact Or.inr (Or.inl rfl) | exact Or.inr (Or.inr rfl)) (hd : (x == ("__debug__" : Str)) = false := by decide)
    (hcd : (x == ("__classdict__" : Str)) = false := by decide) (hs : starEach (e :: []) X.env = (false, eval e X.env) :: starEach [] X.env := by rfl)
    (h1 : attributeBase (.Name x p1) "extend" X.env (eval (.Name x p1) X.env) = eval (.Name x p1) X.env := by rfl) (h2 : (p2.endLine == p3.line) = true := by rfl)
    (h3 : ((backTo p3 (starEach [e] X.env)).all (fun x => !x.1) && (backToKw p3 (keywordEach [] X.env)).all (fun x => x.1.isSome) && decide ([e].length + ([] : List Keyword).length + (if ([] : List Keyword).isEmpty then 0 else 1) < 30)) = true := by rfl) :
    DE X RK W (.Call (.Attribute (.Name x p1) "extend" p2) [e] [] p3) (dExt i d) :=
  pe_weak (pe_bm PySem.F.plainAttrs_list PySem.F.slot_list_extend PySem.F.type_list_extend mt_extend (pe_var hN hv hd hcd) (pa_cons he pa_nil hs) h1 h3 h2 hs (by rfl)) (by
  rintro σ H Qh ⟨g, S, ρ, Q, E, R, ⟨⟨p, ds, h0⟩, h⟩, hq, hx⟩
  obtain ⟨z1, z2, z3, xs, z4, z5⟩ := R.cell i _ h0
  refine ⟨_, z1, .inl ⟨rfl, _, SqL.of z4⟩, g, S, ρ, _, E, R, h, fun v H1 S1 ρ1 y R1 e1 r1 q1 => ?_, hx⟩
  cases w : ρ1[i]? with
  | none => simp only [w] at q1
  | some c =>
    cases c with
    | own p' ds' =>
      cases y with
      | lst ys =>
        simp only [w] at q1
        cases r1 with
        | lst a1 a2 =>
          obtain ⟨y1, y2, y3, xs', y4, y5⟩ := R1.cell i _ w
          have ep : p' = p := by rw [z1] at y1; cases y1; rfl
          subst ep
          refine ⟨p', _, xs', _, rfl, rfl, y4, R1.sub _ _ a1, by rw [y5.length, a2.length]; exact q1.1, ?_⟩
          exact hq _ _ S1 _ _ (R1.put w (y5.append a2)) e1 .non q1.2
      | _ => simp only [w] at q1
    | _ => simp only [w] at q1)
/-! ### x.index(e), x.count(e), x a list of flat things -/
def idxD (y : D) (xs : List D) : Option Nat := xs.findIdx? fun z => D.eqb z y
def cntD (y : D) (xs : List D) : Nat := xs.countP fun z => D.eqb z y
def fIndexL (x y : D) (k : D → Prop) : Prop := match x with
  | .lst xs => y.flat = true ∧ xs.all D.flat = true ∧ ∃ j, idxD y xs = some j ∧ k (.int (j : Nat))
  | _ => False
def fCountL (x y : D) (k : D → Prop) : Prop := match x with
  | .lst xs => y.flat = true ∧ xs.all D.flat = true ∧ k (.int (cntD y xs : Nat))
  | _ => False
@[simp] theorem fIndexL_s {xs : List D} {y : D} {k : D → Prop} : fIndexL (.lst xs) y k = (y.flat = true ∧ xs.all D.flat = true ∧ ∃ j, idxD y xs = some j ∧ k (.int (j : Nat))) := rfl
@[simp] theorem fCountL_s {xs : List D} {y : D} {k : D → Prop} : fCountL (.lst xs) y k = (y.flat = true ∧ xs.all D.flat = true ∧ k (.int (cntD y xs : Nat))) := rfl
def rCountF (K : PySem.W.Frag) : V → List V → Hp → VK → Prop := fun x xs H Q => ∃ (a : Addr) (ys : List V) (y : V), x = V.ref a ∧ xs = [y] ∧ SqL K H a ys ∧ flatV y = true ∧ ys.all flatV = true ∧ Q (.int (ys.countP fun z => eqV z y : Nat)) H
theorem count_eqU {y : V} : ∀ {xs : List V} {us : List Value}, Vals xs us → xs.all flatV = true → us.countP (eqU y) = xs.countP fun z => eqV z y
  | _, _, .nil, _ => rfl
  | z :: xs, u :: us, .cons r t, f => by
    rw [List.all_cons, Bool.and_eq_true] at f
    rw [List.countP_cons, List.countP_cons, eqU_of r f.1, count_eqU t f.2]
theorem mt_countF : MtR X "list.count" (rCountF X.K) := by
  intro pins s σ H x xs v us Q I rx rxs h
  obtain ⟨a, ys, y, rfl, rfl, hs, fy, fys, q⟩ := h
  cases rx
  cases rxs with
  | cons ry rt =>
    rename_i uy ut
    cases rt
    obtain ⟨its, rv, ⟨⟨cls, dd, data, sl⟩, n, ho, hc, hdn, hd⟩, hlen⟩ := I.list hs
    simp only at hc hd
    subst hc hd
    refine call_meets PySem.F.slot_list_count ⟨_, ho, rfl⟩ PySem.F.entry_list_count (PySem.F.args_list_count_2 _ _)
      (SeqAt.list_countAt a its.toArray n dd sl uy (eqU y)) ⟨ho, fun u' hu' => mem_eqAt ry fy rv fys u' (by simpa using hu'), ?_⟩
    refine ⟨.int (ys.countP fun z => eqV z y : Nat), H, I.tok _, ⟨s.toks, ?_⟩, q⟩
    show Value.int ((its.toArray.toList.countP (eqU y) : Nat) : Int) s.toks = _
    rw [show its.toArray.toList = its by simp, count_eqU rv fys]
theorem reps_flat {K : PySem.W.Frag} {S : Hp} : ∀ {vs : List V} {xs : List D}, Reps K S vs xs → xs.all D.flat = true → vs.all flatV = true
  | _, _, .nil, _ => rfl
  | v :: vs, x :: xs, .cons r t, f => by
    rw [List.all_cons, Bool.and_eq_true] at f
    rw [List.all_cons, flatV_of r f.1, reps_flat t f.2]; rfl
theorem reps_cnt {K : PySem.W.Frag} {S : Hp} {y : D} {v : V} (ry : Rep K S v y) (fy : y.flat = true) : ∀ {vs : List V} {xs : List D}, Reps K S vs xs → xs.all D.flat = true → (vs.countP fun z => eqV z v) = cntD y xs
  | _, _, .nil, _ => rfl
  | u :: vs, x :: xs, .cons r t, f => by
    rw [List.all_cons, Bool.and_eq_true] at f
    have ih := reps_cnt ry fy t f.2
    unfold cntD at *
    rw [List.countP_cons, List.countP_cons, ih, eqV_eqb r ry f.1 fy]
def D.isL : D → Bool
  | .lst _ => true
  | _ => false
@[simp] theorem isL_lst {xs : List D} : (D.lst xs).isL = true := rfl
@[simp] def dMethL (f : D → D → (D → Prop) → Prop) (da db : DT) : DT := fun E ρ Q => da E ρ fun x ρ1 => x.isL = true ∧ db E ρ1 fun y ρ2 => f x y fun z => Q z ρ2
theorem isL_ex {x : D} (h : x.isL = true) : ∃ xs, x = .lst xs := by
  cases x <;> first | exact ⟨_, rfl⟩ | cases h
theorem de_index (ha : DE X RK W a da) (hb : DE X RK W b db) (hs : starEach (b :: []) X.env = (false, eval b X.env) :: starEach [] X.env := by rfl)
    (h1 : attributeBase a "index" X.env (eval a X.env) = eval a X.env := by rfl) (h2 : (p2.endLine == p3.line) = true := by rfl)
    (h3 : ((backTo p3 (starEach [b] X.env)).all (fun x => !x.1) && (backToKw p3 (keywordEach [] X.env)).all (fun x => x.1.isSome) && decide ([b].length + ([] : List Keyword).length + (if ([] : List Keyword).isEmpty then 0 else 1) < 30)) = true := by rfl) :
    DE X RK W (.Call (.Attribute a "index" p2) [b] [] p3) (dMethL fIndexL da db) :=
  pe_weak (pe_bm PySem.F.plainAttrs_list PySem.F.slot_list_index PySem.F.type_list_index mt_index ha (pa_cons hb pa_nil hs) h1 h3 h2 hs (by rfl)) (by
  rintro σ H Qh ⟨g, S, ρ, Q, E, R, h, hq, hx⟩
  refine ⟨g, S, ρ, _, E, R, h, fun v H1 S1 ρ1 x R1 e1 r1 q1 => ?_, hx⟩
  obtain ⟨q1, q2⟩ := q1
  obtain ⟨xs, rfl⟩ := isL_ex q1
  cases r1 with
  | @lst al vs _ a1 a2 =>
    refine ⟨.inl ⟨rfl, _, SqL.of (R1.sub _ _ a1)⟩, g, S1, ρ1, _, E, R1, q2, fun u H2 S2 ρ2 y R2 e2 r2 q3 => ?_, hx.up e1⟩
    obtain ⟨f1, f2, j, hj, q4⟩ := q3
    have a3 := a2.up e2
    unfold idxD at hj
    rw [List.findIdx?_eq_some_iff_getElem] at hj
    obtain ⟨hjl, hj1, hj2⟩ := hj
    obtain ⟨z, hz1, hz2⟩ := a3.get' (List.getElem?_eq_getElem hjl)
    have fz : ∀ (m : Nat) (hm : m < xs.length), D.flat xs[m] = true := fun m hm => List.all_eq_true.mp f2 _ (List.getElem_mem hm)
    refine ⟨_, vs, u, j, z, rfl, rfl, SqL.of (R2.sub _ _ (e2 _ _ a1)), flatV_of r2 f1, reps_flat a3 f2, hz1, ?_, fun m z' hm hz' => ?_, ?_⟩
    · rw [eqV_eqb hz2 r2 (fz j hjl) f1]; exact hj1
    · obtain ⟨d', k1, k2⟩ := a3.get hz'
      have hml : m < xs.length := (List.getElem?_eq_some_iff.mp k1).1
      have e3 : xs[m] = d' := (List.getElem?_eq_some_iff.mp k1).2
      have := hj2 m hm
      rw [eqV_eqb k2 r2 (e3 ▸ fz m hml) f1, ← e3]
      simpa using this
    · exact hq _ H2 S2 ρ2 _ R2 (e1.trans e2) (.int _) q4)
theorem de_count (ha : DE X RK W a da) (hb : DE X RK W b db) (hs : starEach (b :: []) X.env = (false, eval b X.env) :: starEach [] X.env := by rfl)
    (h1 : attributeBase a "count" X.env (eval a X.env) = eval a X.env := by rfl) (h2 : (p2.endLine == p3.line) = true := by rfl)
    (h3 : ((backTo p3 (starEach [b] X.env)).all (fun x => !x.1) && (backToKw p3 (keywordEach [] X.env)).all (fun x => x.1.isSome) && decide ([b].length + ([] : List Keyword).length + (if ([] : List Keyword).isEmpty then 0 else 1) < 30)) = true := by rfl) :
    DE X RK W (.Call (.Attribute a "count" p2) [b] [] p3) (dMethL fCountL da db) :=
  pe_weak (pe_bm PySem.F.plainAttrs_list PySem.F.slot_list_count PySem.F.type_list_count mt_countF ha (pa_cons hb pa_nil hs) h1 h3 h2 hs (by rfl)) (by
  rintro σ H Qh ⟨g, S, ρ, Q, E, R, h, hq, hx⟩
  refine ⟨g, S, ρ, _, E, R, h, fun v H1 S1 ρ1 x R1 e1 r1 q1 => ?_, hx⟩
  obtain ⟨q1, q2⟩ := q1
  obtain ⟨xs, rfl⟩ := isL_ex q1
  cases r1 with
  | @lst al vs _ a1 a2 =>
    refine ⟨.inl ⟨rfl, _, SqL.of (R1.sub _ _ a1)⟩, g, S1, ρ1, _, E, R1, q2, fun u H2 S2 ρ2 y R2 e2 r2 q3 => ?_, hx.up e1⟩
    obtain ⟨f1, f2, q4⟩ := q3
    have a3 := a2.up e2
    refine ⟨_, vs, u, rfl, rfl, SqL.of (R2.sub _ _ (e2 _ _ a1)), flatV_of r2 f1, reps_flat a3 f2, ?_⟩
    rw [reps_cnt r2 f1 a3 f2]
    exact hq _ H2 S2 ρ2 _ R2 (e1.trans e2) (.int _) q4)
/-! ### a module's constants -/
theorem same_none {S : Hp} : Same (fun _ => none) S := fun a o h => by cases h
/-- a constant of the module that stands for d -/
def KD? (K : PySem.W.Frag) (mg : Str → Option Value) (x : Str) (d : D) : Prop := ∃ (v : V) (u : Value), mg x = some u ∧ RelV v u ∧ Rep K (fun _ => none) v d
theorem de_gk {c : D} (h : KD? X.K X.mg x c) (hg : Gl X x := by rfl) (hd : (x == ("__debug__" : Str)) = false := by decide) : DE X RK W (.Name x p1) (dC c) := by
  obtain ⟨v, u, hm, r, rp⟩ := h
  exact de_glob hg hm r (fun S => rp.up same_none) hd
end
theorem kd_str {K : PySem.W.Frag} {mg : Str → Option Value} {x y : Str} {t : Tok} (h : mg x = some (.str y t)) : KD? K mg x (.str y) := ⟨.str y, _, h, ⟨t, rfl⟩, .str y⟩
/-- a value of the module that stands for d -/
inductive KVal (K : PySem.W.Frag) : Value → V → D → Prop where
  | int (i : Int) (t : Tok) : KVal K (.int i t) (.int i) (.int i)
  | str (x : Str) (t : Tok) : KVal K (.str x t) (.str x) (.str x)
  | bl (b : Bool) : KVal K (.bool b) (.bl b) (.bl b)
  | non : KVal K .none .non .non
  | ref (a : Addr) (v : V) (d : D) : Rep K (fun _ => none) (.ref a) d → KVal K (.ref a) (.ref a) d
theorem KVal.rel {K : PySem.W.Frag} {u : Value} {v : V} {d : D} (h : KVal K u v d) : RelV v u := by
  cases h with
  | int i t => exact ⟨t, rfl⟩
  | str x t => exact ⟨t, rfl⟩
  | bl b => rfl
  | non => rfl
  | ref a v d h => rfl
theorem KVal.rep {K : PySem.W.Frag} {u : Value} {v : V} {d : D} (h : KVal K u v d) : Rep K (fun _ => none) v d := by
  cases h with
  | int i t => exact .int i
  | str x t => exact .str x
  | bl b => exact .bl b
  | non => exact .non
  | ref a v d h => exact h
inductive KVals (K : PySem.W.Frag) : List Value → List V → List D → Prop where
  | nil : KVals K [] [] []
  | cons {u : Value} {v : V} {d : D} {us : List Value} {vs : List V} {ds : List D} : KVal K u v d → KVals K us vs ds → KVals K (u :: us) (v :: vs) (d :: ds)
theorem KVals.vals {K : PySem.W.Frag} : ∀ {us : List Value} {vs : List V} {ds : List D}, KVals K us vs ds → Vals vs us
  | _, _, _, .nil => .nil
  | _, _, _, .cons h t => .cons h.rel t.vals
theorem KVals.reps {K : PySem.W.Frag} : ∀ {us : List Value} {vs : List V} {ds : List D}, KVals K us vs ds → Reps K (fun _ => none) vs ds
  | _, _, _, .nil => .nil
  | _, _, _, .cons h t => .cons h.rep t.reps
/-- a tuple of the module -/
theorem rep_tupK {K : PySem.W.Frag} {a : Addr} {od : Option Addr} {us : Array Value} {n : Nat} {sl : Array (Option Value)} {vs : List V} {ds : List D} (h : K.lookup a = some ⟨.type "tuple", od, .seq us n, sl⟩) (hz : us.size ≤ sizeLine) (k : KVals K us.toList vs ds) :
    Rep K (fun _ => none) (.ref a) (.tup ds) := .tup (.inr ⟨_, us, n, h, rfl, rfl, hz, k.vals⟩) k.reps
theorem kd_tup {K : PySem.W.Frag} {mg : Str → Option Value} {x : Str} {a : Addr} {ds : List D} (h : mg x = some (.ref a)) (r : Rep K (fun _ => none) (.ref a) (.tup ds)) : KD? K mg x (.tup ds) := ⟨.ref a, _, h, rfl, r⟩
/-! ### readings at a known state -/
section
variable {E : EK} {c : Cell} {r : Rho} {Q : D → Rho → Prop} {d : DT} {i : Nat}
def onL (x : D) (k : List D → Prop) : Prop := match x with
  | .lst ys => k ys
  | _ => False
@[simp] theorem onL_s {ys : List D} {k : List D → Prop} : onL (.lst ys) k = k ys := rfl
@[simp] theorem dExt_s {ρ : Rho} : dExt i d E ρ Q = ((∃ p ds, ρ[i]? = some (.own p ds)) ∧ d E ρ fun y ρ1 => onOwn ρ1[i]? fun p ds => onL y fun ys => ds.length + ys.length ≤ sizeLine ∧ Q .non (ρ1.set i (.own p (ds ++ ys)))) := by
  unfold dExt onOwn onL; congr 2; funext y ρ1; cases y <;> (cases ρ1[i]? with
    | none => rfl
    | some c => cases c <;> rfl)
end
end DL
/-! DL31: a tuple so many times, once and not at all too -/
namespace DL
open PySem PySem.Spec PyProof.Rows L2
theorem tuple_mul_one (l : Addr) (items : Array Value) (n : Nat) (dd : Option Addr) (sl : Array (Option Value)) (u : Tok) :
    Meets (Builtin.«tuple.__mul__» ⟨[.ref l, .int 1 u], []⟩) (fun _ R s => s.heap.get? l = some { cls := .type "tuple", dict := dd, data := .seq items n, slots := sl } ∧ R (.ok (.ret (Value.ref l))) s) :=
  .of_wp fun prog w A R s h => by
    obtain ⟨hp, g, d, tk, os⟩ := s
    obtain ⟨hl, h⟩ := h
    have f1 := AutoSeq1.idx_int
    have c0 : (decide ((1 : Int) < -(2 ^ 63)) || decide ((1 : Int) ≥ 2 ^ 63)) = false := by decide
    have c1 : (items.isEmpty || (1 : Int) == 1) = true := by simp
    wp_walk using wpAny_loadPart' hl
    repeat (first
      | (refine wpAny_ite_false (decide_eq_false (by rw [c0]; exact Bool.false_ne_true)) ?_; wp_walk using wpAny_loadPart' hl)
      | (refine wpAny_ite_true (decide_eq_true (by rw [c1])) ?_; wp_walk using wpAny_loadPart' hl))
    exact ⟨_, rfl, h⟩
theorem tuple_mul_zero (l : Addr) (items : Array Value) (n : Nat) (dd : Option Addr) (sl : Array (Option Value)) (x : Int) (u : Tok) (c0 : (decide (x < -(2 ^ 63)) || decide (x ≥ 2 ^ 63)) = false) (c1 : (items.isEmpty || x == 1) = false) (c2 : (decide (x ≤ 0) || items.isEmpty) = true) :
    Meets (Builtin.«tuple.__mul__» ⟨[.ref l, .int x u], []⟩) (fun _ R s => s.heap.get? l = some { cls := .type "tuple", dict := dd, data := .seq items n, slots := sl } ∧
      R (.ok (.ret (Value.ref s.heap.objs.size))) { s with heap := s.heap.push { cls := Value.type "tuple", data := Data.seq #[] }, toks := s.toks }) :=
  .of_wp fun prog w A R s h => by
    obtain ⟨hp, g, d, tk, os⟩ := s
    obtain ⟨hl, h⟩ := h
    have f1 := AutoSeq1.idx_int
    wp_walk using wpAny_loadPart' hl
    repeat (first
      | (refine wpAny_ite_false (decide_eq_false (by rw [c0]; exact Bool.false_ne_true)) ?_; wp_walk using wpAny_loadPart' hl)
      | (refine wpAny_ite_false (decide_eq_false (by rw [c1]; exact Bool.false_ne_true)) ?_; wp_walk using wpAny_loadPart' hl)
      | (refine wpAny_ite_true (decide_eq_true (by rw [c2])) ?_; wp_walk using wpAny_loadPart' hl))
    exact ⟨_, rfl, h⟩
/-- t * k -/
def rRepT2 (K : PySem.W.Frag) : R2 := fun x y H Q => ∃ l k xs, x = .ref l ∧ y = .int k ∧ SqT K H l xs ∧ xs ≠ [] ∧ -(2 ^ 63) ≤ k ∧ k ≤ 1000 ∧ xs.length ≤ 1000 ∧ ((k = 1 ∧ Q (.ref l) H) ∨ (k ≠ 1 ∧ ∀ p, H p = none → Q (.ref p) (upd H p (.tup (List.replicate k.toNat xs).flatten))))
section
variable {X : Cx}
theorem op_repT2 : OpR X (binaryOp .Mult) (rRepT2 X.K) := by
  intro pins s σ H x y v u Q I rx ry h
  obtain ⟨l, k, xs, rfl, rfl, hs, hn, h1, h2, hz, q⟩ := h
  rcases q with ⟨hk, q⟩ | ⟨hk, q⟩
  · subst hk
    cases rx
    obtain ⟨t, rfl⟩ := ry
    obtain ⟨its, r, ⟨⟨cls, dd, data, sl⟩, ho, hc, n, hd⟩, hlen⟩ := I.tuple hs
    simp only at hc hd
    subst hc hd
    exact wpAny_binaryOp_repeat_ref (T := "tuple") (U := "int") (by decide) ⟨_, ho, rfl⟩ (fun s' => typeIs_int s' 1 t) noFill_tuple_mul F.fills_int_mul F.slot_int_rmul repeat_tuple F.slot_int_index.lookup
      (call_meets F.slot_int_rmul (typeIs_int s 1 t) F.entry_int_rmul (F.args_int_rmul_2 _ _) (int_rmul_tuple 1 t l its.toArray n dd sl)
        ⟨ho, rfl, ⟨_, ho, rfl⟩, call_meets F.slot_tuple_mul ⟨_, ho, rfl⟩ F.entry_tuple_mul (F.args_tuple_mul_2 _ _) (tuple_mul_one l its.toArray n dd sl t) ⟨ho, ⟨.ref l, H, I, rfl, q⟩⟩⟩)
  · by_cases hk2 : 2 ≤ k
    · exact op_repT pins s σ H _ _ _ _ Q I rx ry ⟨l, k, xs, rfl, rfl, hs, hn, hk2, h2, hz, q⟩
    · have hk0 : k ≤ 0 := by omega
      cases rx
      obtain ⟨t, rfl⟩ := ry
      obtain ⟨its, r, ⟨⟨cls, dd, data, sl⟩, ho, hc, n, hd⟩, hlen⟩ := I.tuple hs
      simp only at hc hd
      subst hc hd
      have hi : its.toArray.isEmpty = false := by
        cases its with
        | nil => cases r; exact absurd rfl hn
        | cons a b => rfl
      have c0 : (decide (k < -(2 ^ 63)) || decide (k ≥ 2 ^ 63)) = false := by
        rw [decide_eq_false (by omega), decide_eq_false (by omega)]; rfl
      have c1 : (its.toArray.isEmpty || k == 1) = false := by
        rw [hi, Bool.false_or]
        exact beq_eq_false_iff_ne.mpr (by omega)
      have c2 : (decide (k ≤ 0) || its.toArray.isEmpty) = true := by rw [decide_eq_true hk0]; rfl
      refine wpAny_binaryOp_repeat_ref (T := "tuple") (U := "int") (by decide) ⟨_, ho, rfl⟩ (fun s' => typeIs_int s' k t) noFill_tuple_mul F.fills_int_mul F.slot_int_rmul repeat_tuple F.slot_int_index.lookup
        (call_meets F.slot_int_rmul (typeIs_int s k t) F.entry_int_rmul (F.args_int_rmul_2 _ _) (int_rmul_tuple k t l its.toArray n dd sl)
          ⟨ho, rfl, ⟨_, ho, rfl⟩, call_meets F.slot_tuple_mul ⟨_, ho, rfl⟩ F.entry_tuple_mul (F.args_tuple_mul_2 _ _) (tuple_mul_zero l its.toArray n dd sl k t c0 c1 c2) ⟨ho, ?_⟩⟩)
      have e : (List.replicate k.toNat xs).flatten = [] := by rw [show k.toNat = 0 by omega]; rfl
      rw [e] at q
      refine ⟨.ref s.heap.objs.size, _, I.laid (t' := s.toks) (o := .tup []) (fun b ob q => Heap.get?_push_of_some _ q) (Nat.le_refl _) ?_, rfl, q _ (I.hok.fresh (Nat.le_refl _))⟩
      exact ⟨Nat.zero_le _, [], .nil, IsTup.new _ _⟩
end
def fRepT2 (x y : D) (k : D → Prop) : Prop := match x, y with
  | .tup xs, .int j => xs ≠ [] ∧ -(2 ^ 63) ≤ j ∧ j ≤ 1000 ∧ xs.length ≤ 1000 ∧ k (.tup (List.replicate j.toNat xs).flatten)
  | _, _ => False
@[simp] theorem fRepT2_s {xs : List D} {j : Int} {k : D → Prop} : fRepT2 (.tup xs) (.int j) k = (xs ≠ [] ∧ -(2 ^ 63) ≤ j ∧ j ≤ 1000 ∧ xs.length ≤ 1000 ∧ k (.tup (List.replicate j.toNat xs).flatten)) := rfl
theorem opd_repT2 {K : PySem.W.Frag} : OpD K (rRepT2 K) fRepT2 := by
  intro RK g S H σ ρ x y v u k Qh R rx ry h hq
  cases x with
  | tup xs =>
    cases y with
    | int j =>
      obtain ⟨h1, h2, h3, h4, h5⟩ := h
      cases rx with
      | @tup a vs _ a1 a2 =>
        cases ry
        have hne : vs ≠ [] := by intro z; subst z; cases a2; exact h1 rfl
        refine ⟨_, _, vs, rfl, rfl, (TupAt.up R.sub a1).sq, hne, h2, h3, by rw [a2.length]; exact h4, ?_⟩
        by_cases hj : j = 1
        · subst hj
          refine .inl ⟨rfl, hq _ H S (.tup xs) R (Same.refl S) (.tup a1 a2) ?_⟩
          have e : (List.replicate (1 : Int).toNat xs).flatten = xs := by simp
          rw [e] at h5; exact h5
        · refine .inr ⟨hj, fun p hp => ?_⟩
          obtain ⟨R4, e4⟩ := R.alloc (o := .tup _) hp
          exact hq _ _ _ _ R4 e4 (.tup (.inl upd_same) ((a2.repl j.toNat).up e4)) h5
    | _ => exact h.elim
  | _ => exact h.elim
theorem repl_one {x : D} {n : Nat} : (List.replicate n [x]).flatten = List.replicate n x := by
  induction n with
  | zero => rfl
  | succ n ih => rw [List.replicate_succ, List.flatten_cons, ih]; rfl
@[simp] theorem repl_one_s {x : D} {n : Nat} : (List.replicate n [x]).flatten = List.replicate n x := repl_one
end DL
/-! DL32: how many lots there are, lots numbered -/
namespace DL
open PySem PySem.Spec PyProof.Rows L2
/-- how many lots of so many of so many -/
def C : Nat → Nat → Nat
  | _, 0 => 1
  | 0, _ + 1 => 0
  | n + 1, k + 1 => C n k + C n (k + 1)
@[simp] theorem C_0 (n : Nat) : C n 0 = 1 := by cases n <;> rfl
@[simp] theorem C_0s (k : Nat) : C 0 (k + 1) = 0 := rfl
theorem C_ss (n k : Nat) : C (n + 1) (k + 1) = C n k + C n (k + 1) := rfl
theorem C_gt : ∀ {n k : Nat}, n < k → C n k = 0
  | _, 0, h => by omega
  | 0, k + 1, _ => rfl
  | n + 1, k + 1, h => by rw [C_ss, C_gt (by omega), C_gt (by omega)]
@[simp] theorem C_self : ∀ n : Nat, C n n = 1
  | 0 => rfl
  | n + 1 => by rw [C_ss, C_self n, C_gt (by omega)]
theorem C_1 : ∀ n : Nat, C n 1 = n
  | 0 => rfl
  | n + 1 => by rw [C_ss, C_0, C_1 n]; omega
theorem C_succ : ∀ (n k : Nat), (k + 1) * C n (k + 1) = (n - k) * C n k
  | 0, k => by simp
  | n + 1, 0 => by simp [C_1]
  | n + 1, j + 1 => by
    have h1 := C_succ n (j + 1)
    have h2 := C_succ n j
    by_cases h : j + 1 ≤ n
    · rw [C_ss n (j + 1), C_ss n j, Nat.mul_add, h1, show n + 1 - (j + 1) = n - j by omega, Nat.mul_add, ← h2]
      rw [← Nat.add_mul, ← Nat.add_mul]
      congr 1
      omega
    · rw [C_gt (show n + 1 < j + 1 + 1 by omega)]
      by_cases h' : n = j
      · subst h'; simp
      · rw [C_gt (show n + 1 < j + 1 by omega)]; simp
theorem C_absorb (n k : Nat) : (k + 1) * C (n + 1) (k + 1) = (n + 1) * C n k := by
  rw [C_ss, Nat.mul_add, C_succ]
  by_cases h : k ≤ n
  · rw [← Nat.add_mul]; congr 1; omega
  · rw [C_gt (show n < k by omega)]; simp
theorem C_pos : ∀ {n k : Nat}, k ≤ n → 0 < C n k
  | _, 0, _ => by simp
  | 0, k + 1, h => by omega
  | n + 1, k + 1, h => by
    rw [C_ss]
    have := C_pos (n := n) (k := k) (by omega)
    omega
theorem C_sym : ∀ {n k : Nat}, k ≤ n → C n k = C n (n - k)
  | 0, 0, _ => rfl
  | n + 1, 0, _ => by simp
  | n + 1, k + 1, h => by
    by_cases e : k = n
    · subst e; simp
    · have h1 := C_sym (n := n) (k := k) (by omega)
      have h2 := C_sym (n := n) (k := k + 1) (by omega)
      rw [C_ss, h1, h2, show n + 1 - (k + 1) = (n - (k + 1)) + 1 by omega, C_ss, show n - (k + 1) + 1 = n - k by omega]
      omega
theorem C_le : ∀ (n k : Nat), C n k ≤ 2 ^ n
  | _, 0 => by simp; exact Nat.one_le_two_pow
  | 0, k + 1 => by simp
  | n + 1, k + 1 => by
    have h1 := C_le n k
    have h2 := C_le n (k + 1)
    rw [C_ss, Nat.pow_succ]; omega
theorem C_div (m j : Nat) : ((C (m + j) j : Nat) : Int) * ((m : Int) + ((j : Int) + 1)) / ((j : Int) + 1) = (C (m + j + 1) (j + 1) : Nat) := by
  have h := C_absorb (m + j) j
  have h2 : ((C (m + j) j : Nat) : Int) * ((m : Int) + ((j : Int) + 1)) = ((j : Int) + 1) * (C (m + j + 1) (j + 1) : Nat) := by
    have := congrArg (fun x : Nat => (x : Int)) h
    simp only [Int.natCast_mul, Int.natCast_add] at this
    rw [Int.mul_comm]
    have e : ((m : Int) + ((j : Int) + 1)) = ((m : Int) + (j : Int) + ((1 : Nat) : Int)) := by omega
    rw [e, ← this]
    congr 1
  rw [h2, Int.mul_ediv_cancel_left _ (by omega)]
/-- .. of any numbers -/
def Cz (a b : Int) : Int := if b < 0 ∨ a < b then 0 else (C a.toNat b.toNat : Nat)
theorem Cz_nat (a b : Nat) : Cz (a : Int) (b : Int) = (C a b : Nat) := by
  unfold Cz
  by_cases h : a < b
  · rw [if_pos (.inr (by omega)), C_gt h]; rfl
  · rw [if_neg (by omega)]; simp
/-! ### products -/
def fact : Nat → Nat
  | 0 => 1
  | n + 1 => fact n * (n + 1)
theorem fact_pos : ∀ n, 0 < fact n
  | 0 => by decide
  | n + 1 => Nat.mul_pos (fact_pos n) (by omega)
def fall (n : Nat) : Nat → Nat
  | 0 => 1
  | k + 1 => fall n k * (n - k)
theorem fall_C (n : Nat) : ∀ k, fall n k = C n k * fact k
  | 0 => by simp [fall, fact]
  | k + 1 => by
    have h := C_succ n k
    unfold fall fact
    rw [fall_C n k, Nat.mul_assoc, Nat.mul_comm (fact k) (n - k), ← Nat.mul_assoc, Nat.mul_comm (C n k) (n - k), ← h, Nat.mul_comm (k + 1), Nat.mul_assoc, Nat.mul_comm (k + 1) (fact k)]
theorem fall_div (n k : Nat) : (fall n k : Int) / (fact k : Nat) = (C n k : Nat) := by
  rw [fall_C]
  have := fact_pos k
  rw [Int.natCast_mul, Int.mul_ediv_cancel _ (by omega)]
/-! ### lots numbered -/
def sumC (n k b : Nat) : Nat → Nat
  | 0 => 0
  | i + 1 => sumC n k b i + C (n - 1 - (b + i)) k
/-- a lot's number among those of its size that begin no earlier -/
def rank (n : Nat) : List Nat → Nat → Nat
  | [], _ => 0
  | a :: r, b => sumC n r.length b (a - b) + rank n r (a + 1)
/-- a lot of numbers below n, from b on -/
def LotN (n : Nat) : List Nat → Nat → Prop
  | [], _ => True
  | a :: r, b => b ≤ a ∧ a < n ∧ LotN n r (a + 1)
def co (n : Nat) : List Nat → Nat
  | [] => 0
  | a :: r => C (n - 1 - a) (r.length + 1) + co n r
theorem LotN.len {n : Nat} : ∀ {l : List Nat} {b : Nat}, LotN n l b → b ≤ n → b + l.length ≤ n
  | [], b, _, h => by simpa using h
  | a :: r, b, ⟨h1, h2, h3⟩, h => by
    have := LotN.len h3 (by omega)
    simp; omega
theorem sumC_hock (n k b : Nat) : ∀ i, b + i ≤ n → sumC n k b i + C (n - (b + i)) (k + 1) = C (n - b) (k + 1)
  | 0, _ => by simp [sumC]
  | i + 1, h => by
    have ih := sumC_hock n k b i (by omega)
    have e : n - (b + i) = (n - 1 - (b + i)) + 1 := by omega
    rw [e, C_ss] at ih
    unfold sumC
    rw [show n - (b + (i + 1)) = n - 1 - (b + i) by omega]
    omega
theorem sumC_front (n k b : Nat) : ∀ i, sumC n k b (i + 1) = C (n - 1 - b) k + sumC n k (b + 1) i
  | 0 => by simp [sumC]
  | i + 1 => by
    have ih := sumC_front n k b i
    rw [show sumC n k b (i + 1 + 1) = sumC n k b (i + 1) + C (n - 1 - (b + (i + 1))) k from rfl, ih]
    show _ = C (n - 1 - b) k + (sumC n k (b + 1) i + C (n - 1 - (b + 1 + i)) k)
    rw [show b + (i + 1) = b + 1 + i by omega]
    omega
theorem rank_co {n : Nat} : ∀ {l : List Nat} {b : Nat}, LotN n l b → b ≤ n → rank n l b + co n l + 1 = C (n - b) l.length
  | [], b, _, _ => by simp [rank, co]
  | a :: r, b, ⟨h1, h2, h3⟩, h => by
    have ih := rank_co h3 (by omega)
    have hk := sumC_hock n r.length b (a - b) (by omega)
    rw [show b + (a - b) = a by omega, show n - a = (n - 1 - a) + 1 by omega, C_ss] at hk
    rw [show n - (a + 1) = n - 1 - a by omega] at ih
    simp only [rank, co, List.length_cons]
    omega
theorem rank_lt {n : Nat} {l : List Nat} {b : Nat} (h : LotN n l b) (hb : b ≤ n) : rank n l b < C (n - b) l.length := by
  have := rank_co h hb; omega
theorem rank_skip {n a b : Nat} {r : List Nat} (h : b < a) : rank n (a :: r) b = C (n - 1 - b) r.length + rank n (a :: r) (b + 1) := by
  unfold rank
  rw [show a - b = (a - (b + 1)) + 1 by omega, sumC_front]
  omega
theorem rank_take {n b : Nat} {r : List Nat} : rank n (b :: r) b = rank n r (b + 1) := by
  show sumC n r.length b (b - b) + rank n r (b + 1) = _
  rw [Nat.sub_self]
  simp [sumC]
/-- the lot of a number, from b on, f steps at most -/
def unr (n : Nat) : Nat → Nat → Nat → Nat → List Nat
  | 0, _, _, _ => []
  | _ + 1, _, 0, _ => []
  | f + 1, b, k + 1, m => if m < C (n - 1 - b) k then b :: unr n f (b + 1) k m else unr n f (b + 1) (k + 1) (m - C (n - 1 - b) k)
theorem LotN.up {n : Nat} : ∀ {l : List Nat} {b c : Nat}, LotN n l b → c ≤ b → LotN n l c
  | [], _, _, _, _ => trivial
  | _ :: _, _, _, ⟨h1, h2, h3⟩, h => ⟨by omega, h2, h3⟩
theorem unr_ok {n : Nat} : ∀ (f b k m : Nat), b + f = n → m < C (n - b) k → LotN n (unr n f b k m) b ∧ (unr n f b k m).length = k ∧ rank n (unr n f b k m) b = m
  | 0, b, k, m, h, hm => by
    rw [show n - b = 0 by omega] at hm
    cases k with
    | zero => simp at hm; subst hm; exact ⟨trivial, rfl, rfl⟩
    | succ k => simp at hm
  | f + 1, b, 0, m, h, hm => by simp at hm; subst hm; exact ⟨trivial, rfl, rfl⟩
  | f + 1, b, k + 1, m, h, hm => by
    rw [show n - b = (n - 1 - b) + 1 by omega, C_ss] at hm
    unfold unr
    by_cases hc : m < C (n - 1 - b) k
    · rw [if_pos hc]
      obtain ⟨h1, h2, h3⟩ := unr_ok (n := n) f (b + 1) k m (by omega) (by rw [show n - (b + 1) = n - 1 - b by omega]; exact hc)
      exact ⟨⟨Nat.le_refl _, by omega, h1⟩, by simp [h2], by rw [rank_take, h3]⟩
    · rw [if_neg hc]
      obtain ⟨h1, h2, h3⟩ := unr_ok (n := n) f (b + 1) (k + 1) (m - C (n - 1 - b) k) (by omega) (by rw [show n - (b + 1) = n - 1 - b by omega]; omega)
      refine ⟨h1.up (by omega), h2, ?_⟩
      cases e : unr n f (b + 1) (k + 1) (m - C (n - 1 - b) k) with
      | nil => rw [e] at h2; simp at h2
      | cons a r =>
        rw [e] at h1 h2 h3
        have : r.length = k := by simpa using h2
        rw [rank_skip (by have := h1.1; omega), h3, this]
        omega
theorem unr_rank {n : Nat} : ∀ (f b : Nat) (l : List Nat), b + f = n → LotN n l b → unr n f b l.length (rank n l b) = l
  | 0, b, [], _, _ => rfl
  | 0, b, a :: r, h, ⟨h1, h2, _⟩ => by omega
  | f + 1, b, [], _, _ => rfl
  | f + 1, b, a :: r, h, ⟨h1, h2, h3⟩ => by
    show (if rank n (a :: r) b < C (n - 1 - b) r.length then _ else _) = _
    by_cases e : a = b
    · subst e
      rw [rank_take]
      have hlt := rank_lt h3 (by omega)
      rw [if_pos (by rw [show n - (a + 1) = n - 1 - a by omega] at hlt; exact hlt), unr_rank f (a + 1) r (by omega) h3]
    · have hlt : b < a := by omega
      rw [rank_skip hlt, if_neg (by omega)]
      rw [show C (n - 1 - b) r.length + rank n (a :: r) (b + 1) - C (n - 1 - b) r.length = rank n (a :: r) (b + 1) by omega]
      exact unr_rank f (b + 1) (a :: r) (by omega) ⟨by omega, h2, h3⟩
theorem rank_inj {n : Nat} {l l' : List Nat} (h : LotN n l 0) (h' : LotN n l' 0) (hl : l.length = l'.length) (e : rank n l 0 = rank n l' 0) : l = l' := by
  rw [← unr_rank n 0 l (by omega) h, ← unr_rank n 0 l' (by omega) h', hl, e]
end DL
/-! DL33: hands numbered: what the program's defs promise -/
namespace DL
open PySem PySem.Spec PyProof.Rows L2
def nt (ns : List Int) : List Nat := ns.map Int.toNat
def zt (l : List Nat) : List Int := l.map fun c : Nat => (c : Int)
/-- a lot of numbers below n -/
def LotZ (n : Int) (ns : List Int) : Prop := (∀ x ∈ ns, 0 ≤ x) ∧ LotN n.toNat (nt ns) 0
def num (ns : List Int) : Int := (rank 52 (nt ns) 0 : Nat)
def nthD (n s m : Int) : D := if m < (C n.toNat s.toNat : Nat) then ti (zt (unr n.toNat n.toNat 0 s.toNat m.toNat)) else .non
/-- the cards that numbers draw -/
def drawn : List Int → List Int → List Int
  | _, [] => []
  | cs, n :: ns => cs.getD (n % cs.length).toNat 0 :: drawn (cs.eraseIdx (n % cs.length).toNat) ns
def Hand (ns : List Int) : Prop := LotZ 52 ns
def T_chosen : TSp := fun ds R _ => ∃ (a b : Int), ds = [.int a, .int b] ∧ a ≤ 1000 ∧ R (.int (Cz a b))
def T_check_size : TSp := fun ds R _ => ∃ (s : Int), ds = [.int s] ∧ (0 ≤ s ∧ s ≤ 52) ∧ R .non
def T_hands_many : TSp := fun ds R _ => ∃ (s : Int), ds = [.int s] ∧ (0 ≤ s ∧ s ≤ 52) ∧ R (.int (C 52 s.toNat : Nat))
def T_lot_number : TSp := fun ds R _ => ∃ (ns : List Int) (n : Int), ds = [.tup (ns.map D.int), .int n] ∧ (0 ≤ n ∧ n ≤ 1000) ∧ LotZ n ns ∧ R (.int (rank n.toNat (nt ns) 0 : Nat))
def T_nth_lot : TSp := fun ds R _ => ∃ (n s m : Int), ds = [.int n, .int s, .int m] ∧ (0 ≤ n ∧ n ≤ 1000) ∧ 0 ≤ s ∧ 0 ≤ m ∧ R (nthD n s m)
def T_raw_hand_number : TSp := fun ds R _ => ∃ (ns : List Int), ds = [.tup (ns.map D.int)] ∧ Hand ns ∧ R (.int (num ns))
def T_hand_number : TSp := fun ds R _ => ∃ (ns : List Int), ds = [.tup (ns.map D.int)] ∧ Hand ns ∧ R (.int (num ns))
def T_check_number : TSp := fun ds R _ => ∃ (m : Int), ds = [.int m] ∧ (0 ≤ m ∧ m ≤ 10 ^ 40) ∧ R .non
def T_nth_hand : TSp := fun ds R _ => ∃ (s m : Int), ds = [.int s, .int m] ∧ (0 ≤ s ∧ s ≤ 52) ∧ (0 ≤ m ∧ m ≤ 10 ^ 40) ∧ R (nthD 52 s m)
def T_raw_next_hand : TSp := fun ds R _ => ∃ (ns : List Int), ds = [.tup (ns.map D.int)] ∧ Hand ns ∧ R (nthD 52 ns.length (num ns + 1))
def T_next_hand : TSp := fun ds R _ => ∃ (ns : List Int), ds = [.tup (ns.map D.int)] ∧ Hand ns ∧ R (nthD 52 ns.length (num ns + 1))
def T_hands_with : TSp := fun ds R _ => ∃ (s : Int) (ns : List Int), ds = [.int s, .tup (ns.map D.int)] ∧ (0 ≤ s ∧ s ≤ 52) ∧ Hand ns ∧ R (.int (Cz (52 - ns.length) (s - ns.length)))
def T_hands_between : TSp := fun ds R _ => ∃ (ns ms : List Int), ds = [.tup (ns.map D.int), .tup (ms.map D.int)] ∧ Hand ns ∧ Hand ms ∧ ns.length = ms.length ∧ R (.int (max 0 (num ms - num ns - 1)))
def T_drawn_by : TSp := fun ds R _ => ∃ (cs ns : List Int), ds = [.lst (cs.map D.int), .tup (ns.map D.int)] ∧ (cs.length ≤ 1000 ∧ ns.length ≤ cs.length) ∧ R (.lst ((drawn cs ns).map D.int))
def T_spread_hand : TSp := fun ds R _ => ∃ (s : Int) (ns : List Int), ds = [.int s, .tup (ns.map D.int)] ∧ (s ≤ 52 ∧ (ns.length : Int) = s) ∧ (∀ x ∈ ns, 0 ≤ x ∧ x ≤ 10 ^ 40) ∧ ∀ os : List Int, os.Perm (drawn (rng 0 52) ns) → os.Pairwise (· ≤ ·) → R (.tup (os.map D.int))
theorem mono_chosen : MonoT T_chosen := fun ds R R2 E E2 hR hE x => (let ⟨v1, v2, v3⟩ := x; ⟨v1, v2, (let ⟨v4, v5, v6⟩ := v3; ⟨v4, v5, hR _ v6⟩)⟩)
theorem len_chosen : ∀ ds R E, T_chosen ds R E → ds.length = 2 := by rintro ds R E ⟨_, _, rfl, _⟩; rfl
theorem mono_check_size : MonoT T_check_size := fun ds R R2 E E2 hR hE x => (let ⟨v1, v2⟩ := x; ⟨v1, (let ⟨v3, v4, v5⟩ := v2; ⟨v3, (let ⟨v6, v7⟩ := v4; ⟨v6, v7⟩), hR _ v5⟩)⟩)
theorem len_check_size : ∀ ds R E, T_check_size ds R E → ds.length = 1 := by rintro ds R E ⟨_, rfl, _⟩; rfl
theorem mono_hands_many : MonoT T_hands_many := fun ds R R2 E E2 hR hE x => (let ⟨v1, v2⟩ := x; ⟨v1, (let ⟨v3, v4, v5⟩ := v2; ⟨v3, (let ⟨v6, v7⟩ := v4; ⟨v6, v7⟩), hR _ v5⟩)⟩)
theorem len_hands_many : ∀ ds R E, T_hands_many ds R E → ds.length = 1 := by rintro ds R E ⟨_, rfl, _⟩; rfl
theorem mono_lot_number : MonoT T_lot_number := fun ds R R2 E E2 hR hE x => (let ⟨v1, v2, v3⟩ := x; ⟨v1, v2, (let ⟨v4, v5, v6, v7⟩ := v3; ⟨v4, (let ⟨v8, v9⟩ := v5; ⟨v8, v9⟩), v6, hR _ v7⟩)⟩)
theorem len_lot_number : ∀ ds R E, T_lot_number ds R E → ds.length = 2 := by rintro ds R E ⟨_, _, rfl, _⟩; rfl
theorem mono_nth_lot : MonoT T_nth_lot := fun ds R R2 E E2 hR hE x => (let ⟨v1, v2, v3, v4⟩ := x; ⟨v1, v2, v3, (let ⟨v5, v6, v7, v8, v9⟩ := v4; ⟨v5, (let ⟨v10, v11⟩ := v6; ⟨v10, v11⟩), v7, v8, hR _ v9⟩)⟩)
theorem len_nth_lot : ∀ ds R E, T_nth_lot ds R E → ds.length = 3 := by rintro ds R E ⟨_, _, _, rfl, _⟩; rfl
theorem mono_raw_hand_number : MonoT T_raw_hand_number := fun ds R R2 E E2 hR hE x => (let ⟨v1, v2⟩ := x; ⟨v1, (let ⟨v3, v4, v5⟩ := v2; ⟨v3, v4, hR _ v5⟩)⟩)
theorem len_raw_hand_number : ∀ ds R E, T_raw_hand_number ds R E → ds.length = 1 := by rintro ds R E ⟨_, rfl, _⟩; rfl
theorem mono_hand_number : MonoT T_hand_number := fun ds R R2 E E2 hR hE x => (let ⟨v1, v2⟩ := x; ⟨v1, (let ⟨v3, v4, v5⟩ := v2; ⟨v3, v4, hR _ v5⟩)⟩)
theorem len_hand_number : ∀ ds R E, T_hand_number ds R E → ds.length = 1 := by rintro ds R E ⟨_, rfl, _⟩; rfl
theorem mono_check_number : MonoT T_check_number := fun ds R R2 E E2 hR hE x => (let ⟨v1, v2⟩ := x; ⟨v1, (let ⟨v3, v4, v5⟩ := v2; ⟨v3, (let ⟨v6, v7⟩ := v4; ⟨v6, v7⟩), hR _ v5⟩)⟩)
theorem len_check_number : ∀ ds R E, T_check_number ds R E → ds.length = 1 := by rintro ds R E ⟨_, rfl, _⟩; rfl
theorem mono_nth_hand : MonoT T_nth_hand := fun ds R R2 E E2 hR hE x => (let ⟨v1, v2, v3⟩ := x; ⟨v1, v2, (let ⟨v4, v5, v6, v7⟩ := v3; ⟨v4, (let ⟨v8, v9⟩ := v5; ⟨v8, v9⟩), (let ⟨v10, v11⟩ := v6; ⟨v10, v11⟩), hR _ v7⟩)⟩)
theorem len_nth_hand : ∀ ds R E, T_nth_hand ds R E → ds.length = 2 := by rintro ds R E ⟨_, _, rfl, _⟩; rfl
theorem mono_raw_next_hand : MonoT T_raw_next_hand := fun ds R R2 E E2 hR hE x => (let ⟨v1, v2⟩ := x; ⟨v1, (let ⟨v3, v4, v5⟩ := v2; ⟨v3, v4, hR _ v5⟩)⟩)
theorem len_raw_next_hand : ∀ ds R E, T_raw_next_hand ds R E → ds.length = 1 := by rintro ds R E ⟨_, rfl, _⟩; rfl
theorem mono_next_hand : MonoT T_next_hand := fun ds R R2 E E2 hR hE x => (let ⟨v1, v2⟩ := x; ⟨v1, (let ⟨v3, v4, v5⟩ := v2; ⟨v3, v4, hR _ v5⟩)⟩)
theorem len_next_hand : ∀ ds R E, T_next_hand ds R E → ds.length = 1 := by rintro ds R E ⟨_, rfl, _⟩; rfl
theorem mono_hands_with : MonoT T_hands_with := fun ds R R2 E E2 hR hE x => (let ⟨v1, v2, v3⟩ := x; ⟨v1, v2, (let ⟨v4, v5, v6, v7⟩ := v3; ⟨v4, (let ⟨v8, v9⟩ := v5; ⟨v8, v9⟩), v6, hR _ v7⟩)⟩)
theorem len_hands_with : ∀ ds R E, T_hands_with ds R E → ds.length = 2 := by rintro ds R E ⟨_, _, rfl, _⟩; rfl
theorem mono_hands_between : MonoT T_hands_between := fun ds R R2 E E2 hR hE x => (let ⟨v1, v2, v3⟩ := x; ⟨v1, v2, (let ⟨v4, v5, v6, v7, v8⟩ := v3; ⟨v4, v5, v6, v7, hR _ v8⟩)⟩)
theorem len_hands_between : ∀ ds R E, T_hands_between ds R E → ds.length = 2 := by rintro ds R E ⟨_, _, rfl, _⟩; rfl
theorem mono_drawn_by : MonoT T_drawn_by := fun ds R R2 E E2 hR hE x => (let ⟨v1, v2, v3⟩ := x; ⟨v1, v2, (let ⟨v4, v5, v6⟩ := v3; ⟨v4, (let ⟨v7, v8⟩ := v5; ⟨v7, v8⟩), hR _ v6⟩)⟩)
theorem len_drawn_by : ∀ ds R E, T_drawn_by ds R E → ds.length = 2 := by rintro ds R E ⟨_, _, rfl, _⟩; rfl
theorem mono_spread_hand : MonoT T_spread_hand := fun ds R R2 E E2 hR hE x => (let ⟨v1, v2, v3⟩ := x; ⟨v1, v2, (let ⟨v4, v5, v6, v7⟩ := v3; ⟨v4, (let ⟨v8, v9⟩ := v5; ⟨v8, v9⟩), (fun v10 v11 => (let ⟨v12, v13⟩ := (v6 v10 v11); ⟨v12, v13⟩)), (fun v14 => (fun v15 v16 => hR _ ((v7 v14) v15 v16)))⟩)⟩)
theorem len_spread_hand : ∀ ds R E, T_spread_hand ds R E → ds.length = 2 := by rintro ds R E ⟨_, _, rfl, _⟩; rfl
@[simp] theorem T_chosen_s {a : Int} {b : Int} {R : D → Prop} {E : Exn → Prop} : T_chosen [.int a, .int b] R E = (a ≤ 1000 ∧ R (.int (Cz a b))) := by
  apply propext
  constructor
  · rintro ⟨_, _, e, h⟩
    simp only [List.cons.injEq, D.tup.injEq, D.lst.injEq, D.int.injEq, D.bl.injEq, D.str.injEq, and_true] at e
    obtain ⟨rfl, rfl⟩ := e
    exact h
  · intro h
    exact ⟨a, b, rfl, h⟩
@[simp] theorem T_check_size_s {s : Int} {R : D → Prop} {E : Exn → Prop} : T_check_size [.int s] R E = ((0 ≤ s ∧ s ≤ 52) ∧ R .non) := by
  apply propext
  constructor
  · rintro ⟨_, e, h⟩
    simp only [List.cons.injEq, D.tup.injEq, D.lst.injEq, D.int.injEq, D.bl.injEq, D.str.injEq, and_true] at e
    obtain rfl := e
    exact h
  · intro h
    exact ⟨s, rfl, h⟩
@[simp] theorem T_hands_many_s {s : Int} {R : D → Prop} {E : Exn → Prop} : T_hands_many [.int s] R E = ((0 ≤ s ∧ s ≤ 52) ∧ R (.int (C 52 s.toNat : Nat))) := by
  apply propext
  constructor
  · rintro ⟨_, e, h⟩
    simp only [List.cons.injEq, D.tup.injEq, D.lst.injEq, D.int.injEq, D.bl.injEq, D.str.injEq, and_true] at e
    obtain rfl := e
    exact h
  · intro h
    exact ⟨s, rfl, h⟩
@[simp] theorem T_lot_number_s {ns : List D} {n : Int} {R : D → Prop} {E : Exn → Prop} : T_lot_number [.tup ns, .int n] R E = (Ints ns = true ∧ (0 ≤ n ∧ n ≤ 1000) ∧ LotZ n (ns.map D.toI) ∧ R (.int (rank n.toNat (nt (ns.map D.toI)) 0 : Nat))) := by
  apply propext
  constructor
  · rintro ⟨_, _, e, h⟩
    simp only [List.cons.injEq, D.tup.injEq, D.lst.injEq, D.int.injEq, D.bl.injEq, D.str.injEq, and_true] at e
    obtain ⟨rfl, rfl⟩ := e
    simpa only [DL.Ints_map, DL.toI_map_s, true_and] using h
  · rintro ⟨i0, h⟩
    obtain ⟨n0, rfl⟩ := Ints.ex i0
    simp only [DL.toI_map_s] at h
    exact ⟨n0, n, rfl, h⟩
@[simp] theorem T_nth_lot_s {n : Int} {s : Int} {m : Int} {R : D → Prop} {E : Exn → Prop} : T_nth_lot [.int n, .int s, .int m] R E = ((0 ≤ n ∧ n ≤ 1000) ∧ 0 ≤ s ∧ 0 ≤ m ∧ R (nthD n s m)) := by
  apply propext
  constructor
  · rintro ⟨_, _, _, e, h⟩
    simp only [List.cons.injEq, D.tup.injEq, D.lst.injEq, D.int.injEq, D.bl.injEq, D.str.injEq, and_true] at e
    obtain ⟨rfl, rfl, rfl⟩ := e
    exact h
  · intro h
    exact ⟨n, s, m, rfl, h⟩
@[simp] theorem T_raw_hand_number_s {ns : List D} {R : D → Prop} {E : Exn → Prop} : T_raw_hand_number [.tup ns] R E = (Ints ns = true ∧ Hand (ns.map D.toI) ∧ R (.int (num (ns.map D.toI)))) := by
  apply propext
  constructor
  · rintro ⟨_, e, h⟩
    simp only [List.cons.injEq, D.tup.injEq, D.lst.injEq, D.int.injEq, D.bl.injEq, D.str.injEq, and_true] at e
    obtain rfl := e
    simpa only [DL.Ints_map, DL.toI_map_s, true_and] using h
  · rintro ⟨i0, h⟩
    obtain ⟨n0, rfl⟩ := Ints.ex i0
    simp only [DL.toI_map_s] at h
    exact ⟨n0, rfl, h⟩
@[simp] theorem T_hand_number_s {ns : List D} {R : D → Prop} {E : Exn → Prop} : T_hand_number [.tup ns] R E = (Ints ns = true ∧ Hand (ns.map D.toI) ∧ R (.int (num (ns.map D.toI)))) := by
  apply propext
  constructor
  · rintro ⟨_, e, h⟩
    simp only [List.cons.injEq, D.tup.injEq, D.lst.injEq, D.int.injEq, D.bl.injEq, D.str.injEq, and_true] at e
    obtain rfl := e
    simpa only [DL.Ints_map, DL.toI_map_s, true_and] using h
  · rintro ⟨i0, h⟩
    obtain ⟨n0, rfl⟩ := Ints.ex i0
    simp only [DL.toI_map_s] at h
    exact ⟨n0, rfl, h⟩
@[simp] theorem T_check_number_s {m : Int} {R : D → Prop} {E : Exn → Prop} : T_check_number [.int m] R E = ((0 ≤ m ∧ m ≤ 10 ^ 40) ∧ R .non) := by
  apply propext
  constructor
  · rintro ⟨_, e, h⟩
    simp only [List.cons.injEq, D.tup.injEq, D.lst.injEq, D.int.injEq, D.bl.injEq, D.str.injEq, and_true] at e
    obtain rfl := e
    exact h
  · intro h
    exact ⟨m, rfl, h⟩
@[simp] theorem T_nth_hand_s {s : Int} {m : Int} {R : D → Prop} {E : Exn → Prop} : T_nth_hand [.int s, .int m] R E = ((0 ≤ s ∧ s ≤ 52) ∧ (0 ≤ m ∧ m ≤ 10 ^ 40) ∧ R (nthD 52 s m)) := by
  apply propext
  constructor
  · rintro ⟨_, _, e, h⟩
    simp only [List.cons.injEq, D.tup.injEq, D.lst.injEq, D.int.injEq, D.bl.injEq, D.str.injEq, and_true] at e
    obtain ⟨rfl, rfl⟩ := e
    exact h
  · intro h
    exact ⟨s, m, rfl, h⟩
@[simp] theorem T_raw_next_hand_s {ns : List D} {R : D → Prop} {E : Exn → Prop} : T_raw_next_hand [.tup ns] R E = (Ints ns = true ∧ Hand (ns.map D.toI) ∧ R (nthD 52 (ns.map D.toI).length (num (ns.map D.toI) + 1))) := by
  apply propext
  constructor
  · rintro ⟨_, e, h⟩
    simp only [List.cons.injEq, D.tup.injEq, D.lst.injEq, D.int.injEq, D.bl.injEq, D.str.injEq, and_true] at e
    obtain rfl := e
    simpa only [DL.Ints_map, DL.toI_map_s, true_and] using h
  · rintro ⟨i0, h⟩
    obtain ⟨n0, rfl⟩ := Ints.ex i0
    simp only [DL.toI_map_s] at h
    exact ⟨n0, rfl, h⟩
@[simp] theorem T_next_hand_s {ns : List D} {R : D → Prop} {E : Exn → Prop} : T_next_hand [.tup ns] R E = (Ints ns = true ∧ Hand (ns.map D.toI) ∧ R (nthD 52 (ns.map D.toI).length (num (ns.map D.toI) + 1))) := by
  apply propext
  constructor
  · rintro ⟨_, e, h⟩
    simp only [List.cons.injEq, D.tup.injEq, D.lst.injEq, D.int.injEq, D.bl.injEq, D.str.injEq, and_true] at e
    obtain rfl := e
    simpa only [DL.Ints_map, DL.toI_map_s, true_and] using h
  · rintro ⟨i0, h⟩
    obtain ⟨n0, rfl⟩ := Ints.ex i0
    simp only [DL.toI_map_s] at h
    exact ⟨n0, rfl, h⟩
@[simp] theorem T_hands_with_s {s : Int} {ns : List D} {R : D → Prop} {E : Exn → Prop} : T_hands_with [.int s, .tup ns] R E = (Ints ns = true ∧ (0 ≤ s ∧ s ≤ 52) ∧ Hand (ns.map D.toI) ∧ R (.int (Cz (52 - (ns.map D.toI).length) (s - (ns.map D.toI).length)))) := by
  apply propext
  constructor
  · rintro ⟨_, _, e, h⟩
    simp only [List.cons.injEq, D.tup.injEq, D.lst.injEq, D.int.injEq, D.bl.injEq, D.str.injEq, and_true] at e
    obtain ⟨rfl, rfl⟩ := e
    simpa only [DL.Ints_map, DL.toI_map_s, true_and] using h
  · rintro ⟨i0, h⟩
    obtain ⟨n0, rfl⟩ := Ints.ex i0
    simp only [DL.toI_map_s] at h
    exact ⟨s, n0, rfl, h⟩
@[simp] theorem T_hands_between_s {ns : List D} {ms : List D} {R : D → Prop} {E : Exn → Prop} : T_hands_between [.tup ns, .tup ms] R E = (Ints ns = true ∧ Ints ms = true ∧ Hand (ns.map D.toI) ∧ Hand (ms.map D.toI) ∧ (ns.map D.toI).length = (ms.map D.toI).length ∧ R (.int (max 0 (num (ms.map D.toI) - num (ns.map D.toI) - 1)))) := by
  apply propext
  constructor
  · rintro ⟨_, _, e, h⟩
    simp only [List.cons.injEq, D.tup.injEq, D.lst.injEq, D.int.injEq, D.bl.injEq, D.str.injEq, and_true] at e
    obtain ⟨rfl, rfl⟩ := e
    simpa only [DL.Ints_map, DL.toI_map_s, true_and] using h
  · rintro ⟨i0, i1, h⟩
    obtain ⟨n0, rfl⟩ := Ints.ex i0
    obtain ⟨n1, rfl⟩ := Ints.ex i1
    simp only [DL.toI_map_s] at h
    exact ⟨n0, n1, rfl, h⟩
@[simp] theorem T_drawn_by_s {cs : List D} {ns : List D} {R : D → Prop} {E : Exn → Prop} : T_drawn_by [.lst cs, .tup ns] R E = (Ints cs = true ∧ Ints ns = true ∧ ((cs.map D.toI).length ≤ 1000 ∧ (ns.map D.toI).length ≤ (cs.map D.toI).length) ∧ R (.lst ((drawn (cs.map D.toI) (ns.map D.toI)).map D.int))) := by
  apply propext
  constructor
  · rintro ⟨_, _, e, h⟩
    simp only [List.cons.injEq, D.tup.injEq, D.lst.injEq, D.int.injEq, D.bl.injEq, D.str.injEq, and_true] at e
    obtain ⟨rfl, rfl⟩ := e
    simpa only [DL.Ints_map, DL.toI_map_s, true_and] using h
  · rintro ⟨i0, i1, h⟩
    obtain ⟨n0, rfl⟩ := Ints.ex i0
    obtain ⟨n1, rfl⟩ := Ints.ex i1
    simp only [DL.toI_map_s] at h
    exact ⟨n0, n1, rfl, h⟩
@[simp] theorem T_spread_hand_s {s : Int} {ns : List D} {R : D → Prop} {E : Exn → Prop} : T_spread_hand [.int s, .tup ns] R E = (Ints ns = true ∧ (s ≤ 52 ∧ ((ns.map D.toI).length : Int) = s) ∧ (∀ x ∈ (ns.map D.toI), 0 ≤ x ∧ x ≤ 10 ^ 40) ∧ ∀ os : List Int, os.Perm (drawn (rng 0 52) (ns.map D.toI)) → os.Pairwise (· ≤ ·) → R (.tup (os.map D.int))) := by
  apply propext
  constructor
  · rintro ⟨_, _, e, h⟩
    simp only [List.cons.injEq, D.tup.injEq, D.lst.injEq, D.int.injEq, D.bl.injEq, D.str.injEq, and_true] at e
    obtain ⟨rfl, rfl⟩ := e
    simpa only [DL.Ints_map, DL.toI_map_s, true_and] using h
  · rintro ⟨i0, h⟩
    obtain ⟨n0, rfl⟩ := Ints.ex i0
    simp only [DL.toI_map_s] at h
    exact ⟨s, n0, rfl, h⟩
/-- chosen: many, some, found, number -/
def r_chosen : DS := (dSeq (dIf (dBOr (dTst (dBin fLt (dVar 1) (dC (.int 0)))) (dTst (dBin fGt (dVar 1) (dVar 0)))) (dRet (dC (.int 0))) dNext)
    (dSeq (dSet 2 (dC (.int 1)))
    (dSeq (dFor (dRngI (dRg2 (dC (.int 1)) (dBin fAdd (dVar 1) (dC (.int 1))))) (bName 3) (dSet 2 (dBin fDiv (dBin fMul (dVar 2) (dBin fAdd (dBin fSub (dVar 0) (dVar 1)) (dVar 3))) (dVar 3))))
    (dRet (dVar 2)))))
/-- check_size: size -/
def r_check_size : DS := (dIf (dBNot (dTru (dCall T_is_within (dACons (dVar 0) (dACons (dC (.int 0)) (dACons (dC (.int 52)) dANil)))))) dNever dNext)
/-- hands_many: size -/
def r_hands_many : DS := (dSeq (dDrop (dCall T_check_size (dACons (dVar 0) dANil)))
    (dRet (dCall T_chosen (dACons (dC (.int 52)) (dACons (dVar 0) dANil)))))
/-- lot_number: lot, many, found, begin, at, one, skipped -/
def r_lot_number : DS := (dSeq (dPar [2, 3] (dafD (dC (.int 0)) (dafD (dC (.int 0)) dafNil)))
    (dSeq (dFor (dEnumA (dACons (dVar 0) dANil)) (bTup 2 (bCons (bName 4) (bCons (bName 5) bNil))) (dSeq (dFor (dRngI (dRg2 (dVar 3) (dVar 5))) (bName 6) (dAug fAddI 2 (dCall T_chosen (dACons (dBin fSub (dBin fSub (dVar 1) (dC (.int 1))) (dVar 6)) (dACons (dBin fSub (dBin fSub (dLenN 0) (dVar 4)) (dC (.int 1))) dANil)))))
    (dSet 3 (dBin fAdd (dVar 5) (dC (.int 1))))))
    (dRet (dVar 2))))
/-- nth_lot: many, size, number, found, begin, ways -/
def r_nth_lot : DS := (dSeq (dIf (dTst (dBin fGe (dVar 2) (dCall T_chosen (dACons (dVar 0) (dACons (dVar 1) dANil))))) (dRet (dC .non)) dNext)
    (dSeq (dPar [3, 4] (dafF (dfLst dANil) (dafD (dC (.int 0)) dafNil)))
    (dSeq (dWhile (dTst (dBin fLt (dLenN 3) (dVar 1))) (dSeq (dSet 5 (dCall T_chosen (dACons (dBin fSub (dBin fSub (dVar 0) (dC (.int 1))) (dVar 4)) (dACons (dBin fSub (dBin fSub (dVar 1) (dLenN 3)) (dC (.int 1))) dANil))))
    (dSeq (dIf (dTst (dBin fLt (dVar 2) (dVar 5))) (dDrop (dApp 3 (dVar 4))) (dAug fSub 2 (dVar 5)))
    (dAug fAddI 4 (dC (.int 1))))))
    (dRet (dCB fTuple (dACons (dVar 3) dANil))))))
/-- raw_hand_number: hand -/
def r_raw_hand_number : DS := (dRet (dCall T_lot_number (dACons (dVar 0) (dACons (dC (.int 52)) dANil))))
/-- hand_number: hand -/
def r_hand_number : DS := (dSeq (dDrop (dCall T_check_hand (dACons (dVar 0) dANil)))
    (dRet (dCall T_raw_hand_number (dACons (dVar 0) dANil))))
/-- raw_next_hand: hand -/
def r_raw_next_hand : DS := (dRet (dCall T_nth_lot (dACons (dC (.int 52)) (dACons (dLenN 0) (dACons (dBin fAdd (dCall T_raw_hand_number (dACons (dVar 0) dANil)) (dC (.int 1))) dANil)))))
/-- next_hand: hand -/
def r_next_hand : DS := (dSeq (dDrop (dCall T_check_hand (dACons (dVar 0) dANil)))
    (dRet (dCall T_raw_next_hand (dACons (dVar 0) dANil))))
/-- hands_with: size, held -/
def r_hands_with : DS := (dSeq (dDrop (dCall T_check_size (dACons (dVar 0) dANil)))
    (dSeq (dDrop (dCall T_check_hand (dACons (dVar 1) dANil)))
    (dRet (dCall T_chosen (dACons (dBin fSub (dC (.int 52)) (dLenN 1)) (dACons (dBin fSub (dVar 0) (dLenN 1)) dANil))))))
/-- hands_between: one, other -/
def r_hands_between : DS := (dSeq (dDrop (dCall T_check_hand (dACons (dVar 0) dANil)))
    (dSeq (dIf (dBOr (dBNot (dTru (dCall T_is_hand (dACons (dVar 1) dANil)))) (dTst (dBin fNeA (dLenN 1) (dLenN 0)))) dNever dNext)
    (dRet (dCB fMax (dACons (dC (.int 0)) (dACons (dBin fSub (dBin fSub (dCall T_raw_hand_number (dACons (dVar 1) dANil)) (dCall T_raw_hand_number (dACons (dVar 0) dANil))) (dC (.int 1))) dANil))))))
/-- drawn_by: cards, numbers, left, found, number -/
def r_drawn_by : DS := (dSeq (dPar [2, 3] (dafF (dCF fList (dACons (dVar 0) dANil)) (dafF (dfLst dANil) dafNil)))
    (dSeq (dFor (dSeqI (dVar 1)) (bName 4) (dDrop (dApp 3 (dPopAt 2 (dBin fSub (dVar 4) (dBin fMul (dLenN 2) (dBin fDiv (dVar 4) (dLenN 2))))))))
    (dRet (dVar 3))))
/-- spread_hand: size, numbers, number -/
def r_spread_hand : DS := (dSeq (dDrop (dCall T_check_size (dACons (dVar 0) dANil)))
    (dSeq (dIf (dBOr (dBNot (dTru (dCB fIsi (dACons (dVar 1) (dACons (dC (.raw (.ty "tuple"))) dANil))))) (dTst (dBin fNeA (dLenN 1) (dVar 0)))) dNever dNext)
    (dSeq (dIf (dBNot (dTru (dCB fAll (dACons (dOf (dLc (dSeqI (dVar 1)) (bName 2) dYes (dCall T_is_within (dACons (dVar 2) (dACons (dC (.int 0)) (dACons (dC (.int 10000000000000000000000000000000000000000)) dANil)))) [2])) dANil)))) dNever dNext)
    (dRet (dCB fTuple (dACons (dOf (dCF fSortedA (dACons (dCall T_drawn_by (dACons (dOf (dfLstRg (dRg1 (dC (.int 52))))) (dACons (dVar 1) dANil))) dANil))) dANil))))))
/-- check_number: number -/
def r_check_number : DS := (dIf (dBNot (dTru (dCall T_is_within (dACons (dVar 0) (dACons (dC (.int 0)) (dACons (dC (.int 10000000000000000000000000000000000000000)) dANil)))))) dNever dNext)
/-- nth_hand: size, number -/
def r_nth_hand : DS := (dSeq (dDrop (dCall T_check_size (dACons (dVar 0) dANil)))
    (dSeq (dDrop (dCall T_check_number (dACons (dVar 1) dANil)))
    (dRet (dCall T_nth_lot (dACons (dC (.int 52)) (dACons (dVar 0) (dACons (dVar 1) dANil)))))))
/-! ### loops that count -/
theorem for_nat {b : DG} {body : DS} {E : EK} {Kd : DEnds} (n : Nat) (f : Nat → D) (I : Nat → Rho → Prop)
    (step : ∀ i ρ (k : Rho → Prop), i < n → I i ρ → (∀ ρ', I (i + 1) ρ' → k ρ') → b (f i) ρ fun ρ1 => body E { nx := k, ct := k, bk := Kd.nx, rt := Kd.rt } ρ1)
    (done : ∀ ρ, I n ρ → Kd.nx ρ) {its : List D} (hi : its = (List.range n).map f) {ρ : Rho} (h : I 0 ρ) : forGo b body E Kd its ρ := by
  refine for_inv (fun its ρ => ∃ i, i ≤ n ∧ its = ((List.range n).drop i).map f ∧ I i ρ) ?_ ?_ (its := its) ⟨0, by omega, by rw [hi]; rfl, h⟩
  · rintro x r ρ k ⟨i, hi, hx, hI⟩ hk
    have hin : i < n := by
      refine Classical.byContradiction fun z => ?_
      rw [List.drop_of_length_le (by simp; omega)] at hx; simp at hx
    rw [List.drop_eq_getElem_cons (by simpa using hin)] at hx
    simp at hx
    obtain ⟨rfl, rfl⟩ := hx
    exact step i ρ k hin hI fun ρ' h' => hk ρ' ⟨i + 1, by omega, by simp, h'⟩
  · rintro ρ ⟨i, hi, hx, hI⟩
    have e : i = n := by
      have := congrArg List.length hx
      simp at this; omega
    subst e
    exact done ρ hI
theorem rng_map (a b : Int) : (rng a b).map D.int = (List.range (b - a).toNat).map fun i : Nat => D.int (a + i) := by
  unfold rng; rw [List.map_map]; rfl
theorem enumD_ints (ns : List Int) : enumD (ns.map D.int) = (List.range ns.length).map fun i : Nat => .tup [.int i, .int (ns.getD i 0)] := by
  apply List.ext_getElem?
  intro i
  by_cases h : i < ns.length
  · rw [enumD_get (x := .int (ns.getD i 0)) (by rw [List.getElem?_map, List.getD_eq_getElem?_getD, List.getElem?_eq_getElem h]; rfl)]
    rw [List.getElem?_map, List.getElem?_range h]; rfl
  · rw [List.getElem?_eq_none (by rw [enumD_len]; simp; omega), List.getElem?_eq_none (by simp; omega)]
theorem ints_range (ns : List Int) : ns.map D.int = (List.range ns.length).map fun i : Nat => .int (ns.getD i 0) := by
  apply List.ext_getElem?
  intro i
  by_cases h : i < ns.length
  · rw [List.getElem?_map, List.getElem?_map, List.getElem?_range h]
    show _ = some (D.int (ns.getD i 0))
    rw [List.getD_eq_getElem?_getD, List.getElem?_eq_getElem h]; rfl
  · rw [List.getElem?_eq_none (by simp; omega), List.getElem?_eq_none (by simp; omega)]
theorem erase_map {α β : Type} (f : α → β) : ∀ (xs : List α) (k : Nat), (xs.map f).eraseIdx k = (xs.eraseIdx k).map f
  | [], _ => rfl
  | _ :: _, 0 => rfl
  | x :: r, k + 1 => by
    show f x :: (r.map f).eraseIdx k = f x :: (r.eraseIdx k).map f
    rw [erase_map f r k]
/-! ### lots -/
@[simp] theorem nt_zt (l : List Nat) : nt (zt l) = l := by
  unfold nt zt; rw [List.map_map]; exact (List.map_congr_left fun x _ => by simp).trans (List.map_id _)
@[simp] theorem nt_len (ns : List Int) : (nt ns).length = ns.length := by unfold nt; simp
@[simp] theorem zt_len (l : List Nat) : (zt l).length = l.length := by unfold zt; simp
theorem zt_nt : ∀ {ns : List Int}, (∀ x ∈ ns, 0 ≤ x) → zt (nt ns) = ns
  | [], _ => rfl
  | a :: r, h => by
    have ih := zt_nt (ns := r) fun x hx => h x (List.mem_cons_of_mem _ hx)
    have := h a List.mem_cons_self
    show ((a.toNat : Nat) : Int) :: zt (nt r) = a :: r
    rw [ih]; congr 1; omega
theorem LotZ.zt {n : Nat} {l : List Nat} (h : LotN n l 0) : LotZ (n : Int) (zt l) := ⟨fun x hx => by
  obtain ⟨c, _, rfl⟩ := List.mem_map.mp hx
  omega, by rw [nt_zt]; simpa using h⟩
theorem LotN.lt {n : Nat} : ∀ {l : List Nat} {b : Nat}, LotN n l b → ∀ x ∈ l, b ≤ x ∧ x < n
  | a :: r, b, ⟨h1, h2, h3⟩, x, hx => by
    rcases List.mem_cons.mp hx with e | e
    · subst e; exact ⟨h1, h2⟩
    · have := LotN.lt h3 x e; exact ⟨by omega, this.2⟩
theorem LotN.incr {n : Nat} : ∀ {l : List Nat} {b : Nat}, LotN n l b → incr (DL.zt l) = true
  | [], _, _ => rfl
  | [_], _, _ => rfl
  | a :: c :: r, b, ⟨_, _, h3⟩ => by
    have ih := LotN.incr h3
    show (decide ((a : Int) < c) && DL.incr (DL.zt (c :: r))) = true
    rw [ih, decide_eq_true (by have := h3.1; omega)]; rfl
theorem LotN_of {n : Nat} : ∀ {l : List Nat} {b : Nat}, incr (zt l) = true → (∀ x ∈ l, x < n) → (∀ a ∈ l.head?, b ≤ a) → LotN n l b
  | [], _, _, _, _ => trivial
  | [a], b, _, h, hb => ⟨hb a rfl, h a List.mem_cons_self, trivial⟩
  | a :: c :: r, b, hi, h, hb => by
    have hi' : (decide ((a : Int) < c) && incr (zt (c :: r))) = true := hi
    rw [Bool.and_eq_true, decide_eq_true_eq] at hi'
    exact ⟨hb a rfl, h a List.mem_cons_self, LotN_of hi'.2 (fun x hx => h x (List.mem_cons_of_mem _ hx)) fun x hx => by
      simp at hx; subst hx; omega⟩
theorem Hand.mem {ns : List Int} (h : Hand ns) : ∀ x ∈ ns, 0 ≤ x ∧ x < 52 := fun x hx => by
  have h1 := h.1 x hx
  have := h.2.lt x.toNat (List.mem_map_of_mem hx)
  have e : (52 : Int).toNat = 52 := rfl
  rw [e] at this
  exact ⟨h1, by omega⟩
theorem Hand.len {ns : List Int} (h : Hand ns) : ns.length ≤ 52 := by
  have := h.2.len (by omega)
  simpa using this
theorem Hand.incr {ns : List Int} (h : Hand ns) : incr ns = true := by
  have := h.2.incr
  rwa [zt_nt h.1] at this
theorem Hand.isD {ns : List Int} (h : Hand ns) : isHandD (.tup (ns.map D.int)) = true := by
  show ((ns.map D.int).all (inR 0 51) && DL.incr ((ns.map D.int).map D.toI)) = true
  rw [toI_map, h.incr, Bool.and_true, List.all_eq_true]
  intro x hx
  obtain ⟨c, hc, rfl⟩ := List.mem_map.mp hx
  have := h.mem c hc
  simp; omega
theorem Hand.okT {ns : List Int} (h : Hand ns) : okT (.tup (ns.map D.int)) := okT_ti (by have := h.len; omega)
theorem Hand_of {ns : List Int} (h : ∀ x ∈ ns, 0 ≤ x ∧ x < 52) (hi : DL.incr ns = true) : Hand ns := by
  have e := zt_nt fun x hx => (h x hx).1
  refine ⟨fun x hx => (h x hx).1, LotN_of (by rw [e]; exact hi) (fun x hx => ?_) fun a _ => Nat.zero_le _⟩
  obtain ⟨c, hc, rfl⟩ := List.mem_map.mp hx
  have := h c hc
  show c.toNat < 52
  omega
theorem incr_sorted : ∀ {ns : List Int}, ns.Nodup → ns.Pairwise (· ≤ ·) → incr ns = true
  | [], _, _ => rfl
  | [_], _, _ => rfl
  | a :: b :: r, hn, hp => by
    have h1 := (List.pairwise_cons.mp hp).1 b List.mem_cons_self
    have h2 := List.nodup_cons.mp hn
    have : a ≠ b := fun e => h2.1 (e ▸ List.mem_cons_self)
    show (decide (a < b) && incr (b :: r)) = true
    rw [incr_sorted h2.2 (List.pairwise_cons.mp hp).2, decide_eq_true (by omega)]; rfl
/-! ### what they compute -/
theorem pu_chosen : ∀ ds R E, T_chosen ds R E → r_chosen (fun x _ => E x) (Ends0 R) (rho0 4 ds) := by
  rintro ds R E ⟨a, b, rfl, ha, h⟩
  simp [r_chosen]
  refine ⟨fun hb => by rw [show Cz a b = 0 from if_pos (.inl hb)] at h; exact h, fun hb => ⟨fun hab => by rw [show Cz a b = 0 from if_pos (.inr hab)] at h; exact h, fun hab => ?_⟩⟩
  obtain ⟨k, rfl⟩ : ∃ k : Nat, b = k := ⟨b.toNat, by omega⟩
  obtain ⟨m, rfl⟩ : ∃ m : Nat, a = (m + k : Nat) := ⟨(a - k).toNat, by omega⟩
  refine ⟨by omega, by omega, ?_⟩
  rw [rng_map]
  refine for_nat k (fun i => .int (1 + i)) (fun i ρ => ∃ c, ρ = [.dat (.int (m + k : Nat)), .dat (.int k), .dat (.int (C (m + i) i : Nat)), c]) ?_ ?_ ?_ ⟨.un, by simp⟩
  · rintro i ρ K hi ⟨c, rfl⟩ hK
    simp
    have e2 : (1 + (i : Int)) = (i : Int) + 1 := by omega
    rw [e2, C_div]
    refine ⟨mulR (by omega) (by omega), divS (by omega) (by omega), hK _ ⟨.dat (.int ((i : Int) + 1)), ?_⟩⟩
    rw [show m + (i + 1) = m + i + 1 by omega]
    simp
  · rintro ρ ⟨c, rfl⟩
    rw [Cz_nat] at h
    simp
    exact h
  · rw [show ((k : Int) + 1 - 1).toNat = k by omega]
theorem pu_check_size : ∀ ds R E, T_check_size ds R E → r_check_size (fun x _ => E x) (Ends0 R) (rho0 1 ds) := by
  rintro ds R E ⟨s, rfl, hs, h⟩
  simp [r_check_size, hs, h]
theorem pu_hands_many : ∀ ds R E, T_hands_many ds R E → r_hands_many (fun x _ => E x) (Ends0 R) (rho0 1 ds) := by
  rintro ds R E ⟨s, rfl, hs, h⟩
  simp [r_hands_many, hs]
  have := Cz_nat 52 s.toNat
  rw [show ((s.toNat : Nat) : Int) = s by omega] at this
  rw [show ((52 : Nat) : Int) = 52 from rfl] at this
  rw [this]; exact h
theorem pu_lot_number : ∀ ds R E, T_lot_number ds R E → r_lot_number (fun x _ => E x) (Ends0 R) (rho0 7 ds) := by
  rintro ds R E ⟨ns, n, rfl, hn, hl, h⟩
  obtain ⟨n, rfl⟩ : ∃ k : Nat, n = k := ⟨n.toNat, by omega⟩
  obtain ⟨hl1, hl2⟩ := hl
  simp at hl2 h
  generalize el : nt ns = l at hl2 h
  have hns : ns = zt l := by rw [← el, zt_nt hl1]
  subst hns
  clear el hl1
  have hln := hl2.len (by omega)
  simp [r_lot_number]
  rw [enumD_ints]
  refine for_nat l.length (fun i => .tup [.int i, .int ((zt l).getD i 0)]) (fun i ρ => ∃ (f b : Nat) (c4 c5 c6 : Cell), ρ = [.dat (.tup ((zt l).map D.int)), .dat (.int n), .dat (.int f), .dat (.int b), c4, c5, c6] ∧ f + rank n (l.drop i) b = rank n l 0 ∧ LotN n (l.drop i) b ∧ b ≤ n) ?_ ?_ (by simp) ⟨0, 0, .un, .un, .un, rfl, by simp, by simpa using hl2, by omega⟩
  · rintro i ρ K hi ⟨f, b, c4, c5, c6, rfl, hf, hlo, hbn⟩ hK
    have e : l.drop i = l[i] :: l.drop (i + 1) := List.drop_eq_getElem_cons hi
    have hz : (zt l).getD i 0 = (l[i] : Nat) := by
      rw [List.getD_eq_getElem?_getD, zt, List.getElem?_map, List.getElem?_eq_getElem hi]; rfl
    rw [e] at hf hlo
    have hr : (l.drop (i + 1)).length = l.length - i - 1 := by simp; omega
    generalize l[i] = a at hf hlo hz
    obtain ⟨h1, h2, h3⟩ := hlo
    simp only [rank, hr] at hf
    rw [hz]
    simp
    refine ⟨by omega, by omega, ?_⟩
    rw [rng_map]
    refine for_nat (ρ := [.dat (.tup ((zt l).map D.int)), .dat (.int n), .dat (.int f), .dat (.int b), .dat (.int i), .dat (.int a), c6]) (a - b) (fun j => .int (b + j)) (fun j ρ => ∃ c6, ρ = [.dat (.tup ((zt l).map D.int)), .dat (.int n), .dat (.int ((f + sumC n (l.length - i - 1) b j : Nat) : Int)), .dat (.int b), .dat (.int i), .dat (.int a), c6]) ?_ ?_ ?_ ⟨c6, by simp [sumC]⟩
    · rintro j ρ K2 hj ⟨c, rfl⟩ hK2
      simp
      rw [show (n : Int) - 1 - (b + j) = ((n - 1 - (b + j) : Nat) : Int) by omega, show (l.length : Int) - i - 1 = ((l.length - i - 1 : Nat) : Int) by omega, Cz_nat]
      refine ⟨by omega, hK2 _ ⟨.dat (.int (b + j)), ?_⟩⟩
      simp [sumC]
      omega
    · rintro ρ ⟨c, rfl⟩
      simp
      exact hK _ ⟨f + sumC n (l.length - i - 1) b (a - b), a + 1, .dat (.int i), .dat (.int a), c, by simp, by omega, h3, by omega⟩
    · rw [show ((a : Int) - b).toNat = a - b by omega]
  · rintro ρ ⟨f, b, c4, c5, c6, rfl, hf, hlo, hbn⟩
    simp [rank] at hf
    simp [hf]
    exact h
theorem pu_nth_lot : ∀ ds R E, T_nth_lot ds R E → r_nth_lot (fun x _ => E x) (Ends0 R) (rho0 6 ds) := by
  rintro ds R E ⟨n, s, m, rfl, hn, hs, hm, h⟩
  obtain ⟨n, rfl⟩ : ∃ k : Nat, n = k := ⟨n.toNat, by omega⟩
  obtain ⟨s, rfl⟩ : ∃ k : Nat, s = k := ⟨s.toNat, by omega⟩
  obtain ⟨m, rfl⟩ : ∃ k : Nat, m = k := ⟨m.toNat, by omega⟩
  simp only [nthD, Int.toNat_natCast] at h
  simp [r_nth_lot, Cz_nat]
  refine ⟨by omega, fun hc => ?_, fun hc => ?_⟩
  · rw [if_neg (by omega)] at h; exact h
  · rw [if_pos (by omega)] at h
    have hsn : s ≤ n := by
      refine Classical.byContradiction fun z => ?_
      rw [C_gt (by omega)] at hc; omega
    generalize hu : unr n n 0 s m = u at h
    intro p
    refine wh_inv (fun t ρ => ∃ (fs : List Nat) (b k m : Nat) (c5 : Cell) (p : Addr), ρ = [.dat (.int n), .dat (.int s), .dat (.int m), .own p ((zt fs).map D.int), .dat (.int b), c5] ∧ b + t = n ∧ fs.length + k = s ∧ m < C (n - b) k ∧ fs ++ unr n t b k m = u) ?_ (n := n) ⟨[], 0, s, m, .un, _, rfl, by omega, by simp, by simpa using hc, hu⟩
    rintro t ρ K ⟨fs, b, k, m, c5, p, rfl, hb, hk, hmc, hfs⟩ hK
    simp
    refine ⟨fun h0 => ?_, fun h0 => ?_⟩
    · obtain ⟨k, rfl⟩ : ∃ k', k = k' + 1 := ⟨k - 1, by omega⟩
      have hbn : b < n := by
        refine Classical.byContradiction fun z => ?_
        rw [show n - b = 0 by omega] at hmc; simp at hmc
      obtain ⟨t, rfl⟩ : ∃ t', t = t' + 1 := ⟨t - 1, by omega⟩
      rw [show (n : Int) - 1 - b = ((n - 1 - b : Nat) : Int) by omega, show (s : Int) - fs.length - 1 = (k : Nat) by omega, Cz_nat]
      rw [show n - b = (n - 1 - b) + 1 by omega, C_ss] at hmc
      unfold unr at hfs
      refine ⟨by omega, fun hc => ⟨sz_of (by omega), ?_⟩, fun hc => ?_⟩
      · rw [if_pos (by omega)] at hfs
        exact hK t _ rfl ⟨fs ++ [b], b + 1, k, m, .dat (.int (C (n - 1 - b) k : Nat)), p, by simp [zt], by omega, by simp; omega, by rw [show n - (b + 1) = n - 1 - b by omega]; omega, by simpa using hfs⟩
      · rw [if_neg (by omega)] at hfs
        exact hK t _ rfl ⟨fs, b + 1, k + 1, m - C (n - 1 - b) k, .dat (.int (C (n - 1 - b) k : Nat)), p, by simp; omega, by omega, by omega, by rw [show n - (b + 1) = n - 1 - b by omega]; omega, hfs⟩
    · have : k = 0 := by omega
      subst this
      have e : unr n t b 0 m = [] := by cases t <;> rfl
      rw [e, List.append_nil] at hfs
      rw [hfs]; exact h
theorem pu_raw_hand_number : ∀ ds R E, T_raw_hand_number ds R E → r_raw_hand_number (fun x _ => E x) (Ends0 R) (rho0 1 ds) := by
  rintro ds R E ⟨ns, rfl, hn, h⟩
  simp [r_raw_hand_number]
  exact ⟨hn, h⟩
theorem pu_hand_number : ∀ ds R E, T_hand_number ds R E → r_hand_number (fun x _ => E x) (Ends0 R) (rho0 1 ds) := by
  rintro ds R E ⟨ns, rfl, hn, h⟩
  simp [r_hand_number, hn.okT, hn.isD]
  exact ⟨hn, h⟩
theorem pu_check_number : ∀ ds R E, T_check_number ds R E → r_check_number (fun x _ => E x) (Ends0 R) (rho0 1 ds) := by
  rintro ds R E ⟨m, rfl, hm, h⟩
  obtain ⟨hm1, hm2⟩ := hm
  have hm3 : m ≤ 10000000000000000000000000000000000000000 := by omega
  simp [r_check_number, hm1, hm3]
  exact h
theorem pu_nth_hand : ∀ ds R E, T_nth_hand ds R E → r_nth_hand (fun x _ => E x) (Ends0 R) (rho0 2 ds) := by
  rintro ds R E ⟨s, m, rfl, hs, hm, h⟩
  simp [r_nth_hand, hs, hm]
  exact ⟨by omega, h⟩
theorem rank52_nonneg {ns : List Int} : 0 ≤ num ns := Int.natCast_nonneg _
theorem pu_raw_next_hand : ∀ ds R E, T_raw_next_hand ds R E → r_raw_next_hand (fun x _ => E x) (Ends0 R) (rho0 1 ds) := by
  rintro ds R E ⟨ns, rfl, hn, h⟩
  have := rank52_nonneg (ns := ns)
  simp [r_raw_next_hand, hn]
  exact ⟨by omega, h⟩
theorem pu_next_hand : ∀ ds R E, T_next_hand ds R E → r_next_hand (fun x _ => E x) (Ends0 R) (rho0 1 ds) := by
  rintro ds R E ⟨ns, rfl, hn, h⟩
  simp [r_next_hand, hn, hn.okT, hn.isD]
  exact h
theorem pu_hands_with : ∀ ds R E, T_hands_with ds R E → r_hands_with (fun x _ => E x) (Ends0 R) (rho0 2 ds) := by
  rintro ds R E ⟨s, ns, rfl, hs, hn, h⟩
  simp [r_hands_with, hs, hn.okT, hn.isD]
  exact ⟨by omega, h⟩
theorem pu_hands_between : ∀ ds R E, T_hands_between ds R E → r_hands_between (fun x _ => E x) (Ends0 R) (rho0 2 ds) := by
  rintro ds R E ⟨ns, ms, rfl, hn, hm, hl, h⟩
  simp [r_hands_between, hn.okT, hn.isD, hm.okT, hm.isD, hl, hn, hm]
  have e : max 0 (num ms - num ns - 1) = if 1 < num ms - num ns then num ms - num ns - 1 else 0 := by split <;> omega
  rw [← e]; exact h
theorem pu_drawn_by : ∀ ds R E, T_drawn_by ds R E → r_drawn_by (fun x _ => E x) (Ends0 R) (rho0 5 ds) := by
  rintro ds R E ⟨cs, ns, rfl, ⟨hc, hl⟩, h⟩
  simp [r_drawn_by]
  intro p q
  refine for_nat ns.length (fun i => .int (ns.getD i 0)) (fun i ρ => ∃ (ls fs : List Int) (p q : Addr) (c : Cell), ρ = [.dat (.lst (cs.map D.int)), .dat (.tup (ns.map D.int)), .own p (ls.map D.int), .own q (fs.map D.int), c] ∧ ls.length + i = cs.length ∧ fs.length = i ∧ fs ++ drawn ls (ns.drop i) = drawn cs ns) ?_ ?_ (ints_range ns) ⟨cs, [], p, q, _, rfl, by simp, rfl, by simp⟩
  · rintro i ρ K hi ⟨ls, fs, p, q, c, rfl, h1, h2, h3⟩ hK
    have e : ns.drop i = ns[i] :: ns.drop (i + 1) := List.drop_eq_getElem_cons hi
    have hz : ns.getD i 0 = ns[i] := by rw [List.getD_eq_getElem?_getD, List.getElem?_eq_getElem hi]; rfl
    rw [e] at h3
    rw [hz]
    generalize ns[i] = a at h3
    have hpos : 0 < (ls.length : Int) := by omega
    have hm0 := Int.emod_nonneg a (b := ls.length) (by omega)
    have hm1 := Int.emod_lt_of_pos a hpos
    have em : a - ls.length * (a / ls.length) = a % ls.length := by have := Int.emod_def a ls.length; omega
    simp
    rw [em]
    refine ⟨divS (by omega) (by omega), mulL (by omega) (by omega), by omega, by omega, (a % ls.length).toNat, seq_in hm0 hm1, _, List.getElem?_eq_getElem (by omega), lst_lt (by omega), ?_⟩
    refine hK _ ⟨ls.eraseIdx (a % ls.length).toNat, fs ++ [ls[(a % ls.length).toNat]'(by omega)], p, q, .dat (.int a), by simp [erase_map], by rw [List.length_eraseIdx_of_lt (by omega)]; omega, by simp; omega, ?_⟩
    rw [← h3, List.append_assoc]
    congr 1
    show _ = ls.getD _ 0 :: _
    rw [List.getD_eq_getElem?_getD, List.getElem?_eq_getElem (by omega)]; rfl
  · rintro ρ ⟨ls, fs, p, q, c, rfl, h1, h2, h3⟩
    simp [drawn] at h3
    simp
    rw [h3]; exact h
theorem pu_spread_hand : ∀ ds R E, T_spread_hand ds R E → r_spread_hand (fun x _ => E x) (Ends0 R) (rho0 3 ds) := by
  rintro ds R E ⟨s, ns, rfl, hs, hn, h⟩
  simp [r_spread_hand]
  refine ⟨⟨by omega, hs.1⟩, hs.2, fun _ => ⟨sz_of (by omega), ?_⟩⟩
  refine lc_all ns _ (fun i => .bl (inR 0 (10 ^ 40) (.int i))) rfl (fun i hi K hK => ?_) (fun ρ2 hρ => ?_)
  · simp [lcStep_s]
    exact hK _ rfl
  · rw [back_is (ρ3 := [.dat (.int s), .dat (.tup (ns.map D.int)), .un]) hρ rfl]
    have hf : false ∉ ns.map fun i => inR 0 (10 ^ 40) (.int i) := by
      intro z
      obtain ⟨y, hy, e⟩ := List.mem_map.mp z
      have := hn y hy
      simp at e; omega
    refine ⟨ns.map fun i => inR 0 (10 ^ 40) (.int i), by rw [List.map_map]; rfl, hf, fun _ => ⟨rgOk_s (by omega) (by omega), ?_⟩⟩
    simp
    refine ⟨by rw [rng_len]; have := hs.1; omega, fun os ho => ?_⟩
    exact h os ho
end DL
/-! DL34: more of hands numbered -/
namespace DL
open PySem PySem.Spec PyProof.Rows L2
theorem divW {i j : Int} (h1 : 0 < j) (h2 : j < 2 ^ 256) : DivOk i j := by
  refine .inr ⟨h1, ?_⟩
  have h3 : j.natAbs < 2 ^ 256 := by omega
  have h4 : j.natAbs ≠ 0 := by omega
  have := (Nat.log2_lt h4).mpr h3
  omega
theorem fact_le : ∀ {k n : Nat}, k ≤ n → fact k ≤ fact n
  | k, 0, h => by rw [show k = 0 by omega]; exact Nat.le_refl _
  | k, n + 1, h => by
    by_cases e : k = n + 1
    · subst e; exact Nat.le_refl _
    · have := fact_le (k := k) (n := n) (by omega)
      have h2 : fact n * 1 ≤ fact n * (n + 1) := Nat.mul_le_mul_left _ (by omega)
      show fact k ≤ fact n * (n + 1)
      omega
theorem fact52 : fact 52 < 2 ^ 256 := by decide +kernel
theorem fall_0 : ∀ {n k : Nat}, n < k → fall n k = 0
  | n, k + 1, h => by
    show fall n k * (n - k) = 0
    by_cases e : n = k
    · rw [e]; simp
    · rw [fall_0 (by omega)]; simp
theorem hand_drawn {ys : List D} {m : Int} (hm : 0 ≤ m ∧ m ≤ 52) (hy : ys.Perm ((rng 0 52).map D.int)) : ∃ ns, DL.cutD ys none (some m) = ns.map D.int ∧ ∀ ns' : List Int, ns'.Perm ns → ns'.Pairwise (· ≤ ·) → Hand ns' ∧ (ns'.length : Int) = m := by
  obtain ⟨ms, rfl, hp⟩ := perm_ints hy
  rw [cutD_map, cutI_to (by omega)]
  refine ⟨_, rfl, fun ns' h1 h2 => ?_⟩
  have hnd : (ms.take m.toNat).Nodup := (hp.nodup_iff.mpr (rng_nodup 52)).sublist (List.take_sublist _ _)
  have hl : ms.length = 52 := by rw [hp.length_eq, rng_len]; rfl
  refine ⟨Hand_of (fun x hx => ?_) (incr_sorted (h1.nodup_iff.mpr hnd) h2), ?_⟩
  · have := hp.mem_iff.mp (List.mem_of_mem_take (h1.mem_iff.mp hx))
    exact rng_mem.mp this
  · rw [h1.length_eq, List.length_take]; omega
theorem nthD_ok {n s m : Nat} (h : m < C n s) : ∃ l, nthD (n : Int) (s : Int) (m : Int) = ti (zt l) ∧ LotN n l 0 ∧ l.length = s ∧ rank n l 0 = m := by
  obtain ⟨h1, h2, h3⟩ := unr_ok (n := n) n 0 s m (by omega) (by simpa using h)
  refine ⟨_, ?_, h1, h2, h3⟩
  simp only [nthD, Int.toNat_natCast]
  rw [if_pos (by omega)]
theorem nthD_no {n s m : Nat} (h : C n s ≤ m) : nthD (n : Int) (s : Int) (m : Int) = .non := by
  simp only [nthD, Int.toNat_natCast]
  rw [if_neg (by omega)]
theorem zt_hand {l : List Nat} (h : LotN 52 l 0) : Hand (zt l) := LotZ.zt h
theorem num_zt {l : List Nat} : num (zt l) = (rank 52 l 0 : Nat) := by unfold num; rw [nt_zt]
theorem next_cases {ns : List Int} (h : Hand ns) : nthD 52 ns.length (num ns + 1) = .non ∧ num ns + 1 = (C 52 ns.length : Nat) ∨ ∃ ms : List Int, nthD 52 ns.length (num ns + 1) = ti ms ∧ Hand ms ∧ ms.length = ns.length ∧ num ms = num ns + 1 := by
  have hr := rank_lt h.2 (by omega)
  have e52 : (52 : Int).toNat = 52 := rfl
  rw [e52, nt_len, Nat.sub_zero] at hr
  by_cases e : rank 52 (nt ns) 0 + 1 < C 52 ns.length
  · obtain ⟨l, h1, h2, h3, h4⟩ := nthD_ok e
    refine .inr ⟨zt l, ?_, zt_hand h2, by simpa using h3, ?_⟩
    · unfold num; rw [← h1]; rfl
    · rw [num_zt, h4]; unfold num; omega
  · refine .inl ⟨?_, by unfold num; omega⟩
    have := nthD_no (n := 52) (s := ns.length) (m := rank 52 (nt ns) 0 + 1) (by omega)
    unfold num; rw [← this]; rfl
theorem sort_uniq : ∀ {xs ys : List Int}, xs.Perm ys → xs.Pairwise (· ≤ ·) → ys.Pairwise (· ≤ ·) → xs = ys
  | [], ys, h, _, _ => h.nil_eq
  | a :: xs, [], h, _, _ => (List.cons_ne_nil _ _ h.symm.nil_eq.symm).elim
  | a :: xs, b :: ys, h, h1, h2 => by
    have e1 := List.pairwise_cons.mp h1
    have e2 := List.pairwise_cons.mp h2
    have m1 : a ∈ b :: ys := h.mem_iff.mp List.mem_cons_self
    have m2 : b ∈ a :: xs := h.mem_iff.mpr List.mem_cons_self
    have e : a = b := by
      rcases List.mem_cons.mp m1 with z | z
      · exact z
      rcases List.mem_cons.mp m2 with w | w
      · exact w.symm
      have := e2.1 a z; have := e1.1 b w; omega
    subst e
    rw [sort_uniq (List.Perm.cons_inv h) e1.2 e2.2]
theorem drawn_rest : ∀ {cs ns : List Int}, ns.length ≤ cs.length → drawn cs ((List.range ns.length).map fun i : Nat => ns.getD i 0 % ((cs.length : Int) - i)) = drawn cs ns
  | _, [], _ => rfl
  | cs, n :: ns, h => by
    have hl : 0 < (cs.length : Int) := by simp at h; omega
    have h0 := Int.emod_nonneg n (b := cs.length) (by omega)
    have h1 := Int.emod_lt_of_pos n hl
    have hel : (cs.eraseIdx (n % cs.length).toNat).length = cs.length - 1 := List.length_eraseIdx_of_lt (by omega)
    rw [List.length_cons, List.range_succ_eq_map, List.map_cons, List.map_map]
    show drawn cs ((n % ((cs.length : Int) - (0 : Nat))) :: _) = _
    simp only [drawn, Int.natCast_zero, Int.sub_zero, Int.emod_emod]
    congr 1
    have ih := drawn_rest (cs := cs.eraseIdx (n % cs.length).toNat) (ns := ns) (by rw [hel]; simp at h; omega)
    rw [← ih]
    congr 1
    apply List.map_congr_left
    intro i hi
    rw [hel]
    show (n :: ns).getD (i + 1) 0 % _ = _
    rw [List.getD_cons_succ]
    congr 1
    omega
theorem drawn_0 : ∀ {cs : List Int} {k : Nat}, k ≤ cs.length → drawn cs (List.replicate k 0) = cs.take k
  | cs, 0, _ => by simp [drawn]
  | [], k + 1, h => by simp at h
  | c :: cs, k + 1, h => by
    have ih := drawn_0 (cs := cs) (k := k) (by simpa using h)
    simp [List.replicate_succ, drawn, ih]
/-- numbers drawn one by one -/
theorem lc_ints' {b : DG} {t : DB} {e : DT} {vs : List Nat} {w : Rho} {k : List D → Rho → Prop} (P : Int → Prop) : ∀ (its : List D) (ns0 : List Int) (ρ1 : Rho), wipeR ρ1 vs = w → (∀ x ∈ its, ∀ K : Option D → Rho → Prop, (∀ c ρ', P c → wipeR ρ' vs = w → K (some (.int c)) ρ') → lcStep b t e x w K) →
    (∀ (ns : List Int) ρ2, ns.length = its.length → (∀ c ∈ ns, P c) → wipeR ρ2 vs = w → k ((ns0 ++ ns).map D.int) ρ2) → lcGo b t e vs k its (ns0.map D.int) ρ1
  | [], ns0, ρ1, hw, _, hq => by simpa [lcGo] using hq [] ρ1 rfl (fun c hc => by cases hc) hw
  | a :: xs, ns0, ρ1, hw, hs, hq => by
    refine lcGo_cons ?_
    rw [hw]
    refine hs a List.mem_cons_self _ fun c ρ' hc h' => ?_
    have e1 : ns0.map D.int ++ [D.int c] = (ns0 ++ [c]).map D.int := by simp
    show lcGo b t e vs k xs (ns0.map D.int ++ [D.int c]) ρ'
    rw [e1]
    refine lc_ints' P xs _ ρ' h' (fun z hz => hs z (List.mem_cons_of_mem _ hz)) fun ns ρ2 hl hP h2 => ?_
    have := hq (c :: ns) ρ2 (by simp [hl]) (fun z hz => by
      rcases List.mem_cons.mp hz with q | q
      · subst q; exact hc
      · exact hP z q) h2
    simpa using this
theorem lc_ints {b : DG} {t : DB} {e : DT} {vs : List Nat} {w ρ1 : Rho} {k : List D → Rho → Prop} {its : List D} (P : Int → Prop) (hw : wipeR ρ1 vs = w) (hs : ∀ x ∈ its, ∀ K : Option D → Rho → Prop, (∀ c ρ', P c → wipeR ρ' vs = w → K (some (.int c)) ρ') → lcStep b t e x w K)
    (hq : ∀ (ns : List Int) ρ2, ns.length = its.length → (∀ c ∈ ns, P c) → wipeR ρ2 vs = w → k (ns.map D.int) ρ2) : lcGo b t e vs k its [] ρ1 := lc_ints' P its [] ρ1 hw hs (by simpa using hq)
end DL
/-! DL35: backwards, order of lots, the next lot -/
namespace DL
open PySem PySem.Spec PyProof.Rows L2
theorem back_pick {α : Type} {xs : List α} (f : Nat → Nat) (hf : ∀ m, m < xs.length → f m = xs.length - 1 - m) : ∀ k, k ≤ xs.length → (List.range k).filterMap (fun m : Nat => xs[f m]?) = (xs.drop (xs.length - k)).reverse
  | 0, _ => by simp
  | k + 1, h => by
    have hk : xs.length - (k + 1) < xs.length := by omega
    rw [List.range_succ, List.filterMap_append, back_pick f hf k (by omega), List.drop_eq_getElem_cons hk, List.reverse_cons, show xs.length - (k + 1) + 1 = xs.length - k by omega]
    congr 1
    have e : xs[f k]? = some (xs[xs.length - (k + 1)]'hk) := by
      rw [hf k (by omega), show xs.length - 1 - k = xs.length - (k + 1) by omega, List.getElem?_eq_getElem hk]
    simp only [List.filterMap_cons, e, List.filterMap_nil]
@[simp] theorem pickL_back {α : Type} (xs : List α) : pickL xs none none (-1) = xs.reverse := by
  have e : pickL xs none none (-1) = (List.range xs.length).filterMap fun m : Nat => xs[((xs.length : Int) - 1 + -1 * (m : Int)).toNat]? := by
    unfold pickL
    simp only [sliceBounds, sliceRange, Option.getD_some, List.filterMap_map]
    have h1 : ¬ (-1 : Int) > 0 := by omega
    simp only [h1, if_false]
    have h2 : (if (xs.length : Int) - 1 > -1 then ((xs.length : Int) - 1 - -1 - -1 - 1) / (- -1) else 0).toNat = xs.length := by
      split
      · rw [show - -(1 : Int) = 1 by omega, Int.ediv_one]; omega
      · omega
    rw [h2]; rfl
  rw [e, back_pick _ (fun m hm => by omega) _ (Nat.le_refl _)]
  simp
@[simp] theorem pickT_back {α : Type} (xs : List α) : pickT xs none none (-1) = xs.reverse := by
  have e : pickT xs none none (-1) = (List.range xs.length).filterMap fun m : Nat => xs[((xs.length : Int) - 1 + (m : Int) * -1).toNat]? := by
    unfold pickT
    have h1 : (-1 : Int) < 0 := by omega
    have h3 : ¬ (-1 : Int) > 0 := by omega
    have h2 : Builtin.Slice.slicePlaces (Builtin.Slice.sliceAdjust none none (-1) xs.length).1 (Builtin.Slice.sliceAdjust none none (-1) xs.length).2 (-1) = xs.length := by
      simp only [Builtin.Slice.slicePlaces, Builtin.Slice.sliceAdjust, h1, h3, if_true, if_false]
      split
      · rw [show - -(1 : Int) = 1 by omega, Int.ediv_one]; omega
      · omega
    rw [h2]; rfl
  rw [e, back_pick _ (fun m hm => by omega) _ (Nat.le_refl _)]
  simp
/-! ### order -/
theorem sumC_le (n k b : Nat) : ∀ {i j : Nat}, i ≤ j → sumC n k b i ≤ sumC n k b j
  | i, 0, h => by rw [show i = 0 by omega]; exact Nat.le_refl _
  | i, j + 1, h => by
    by_cases e : i = j + 1
    · rw [e]; exact Nat.le_refl _
    · have := sumC_le n k b (i := i) (j := j) (by omega)
      show _ ≤ sumC n k b j + _
      omega
theorem rank_less {n b a a' : Nat} {r r' : List Nat} (h : LotN n (a :: r) b) (h' : LotN n (a' :: r') b) (hl : r.length = r'.length) (e : a < a') : rank n (a :: r) b < rank n (a' :: r') b := by
  have h1 := rank_lt h.2.2 (by have := h.2.1; omega)
  have h2 := sumC_le n r'.length b (i := (a - b) + 1) (j := a' - b) (by have := h.1; omega)
  have h3 : sumC n r'.length b ((a - b) + 1) = sumC n r'.length b (a - b) + C (n - 1 - (b + (a - b))) r'.length := rfl
  rw [show b + (a - b) = a by have := h.1; omega] at h3
  rw [show n - (a + 1) = n - 1 - a by omega, hl] at h1
  simp only [rank, hl]
  omega
theorem lex_rank {n : Nat} : ∀ {l l' : List Nat} {b : Nat}, LotN n l b → LotN n l' b → l.length = l'.length → HT.lexLt (zt l) (zt l') = decide (rank n l b < rank n l' b)
  | [], [], _, _, _, _ => by simp [rank]; rfl
  | a :: r, a' :: r', b, h, h', hl => by
    have hl' : r.length = r'.length := by simpa using hl
    by_cases e : a = a'
    · subst e
      have ih := lex_rank h.2.2 h'.2.2 hl'
      have e1 : HT.lexLt (zt (a :: r)) (zt (a :: r')) = HT.lexLt (zt r) (zt r') := by
        show HT.lexLt ((a : Int) :: zt r) ((a : Int) :: zt r') = _
        rw [HT.lexLt, if_pos rfl]
      rw [e1, ih]
      simp only [rank, hl']
      congr 1
      exact propext ⟨fun z => by omega, fun z => by omega⟩
    · have e1 : HT.lexLt (zt (a :: r)) (zt (a' :: r')) = decide ((a : Int) < a') := by
        show HT.lexLt ((a : Int) :: zt r) ((a' : Int) :: zt r') = _
        rw [HT.lexLt, if_neg (by omega)]
      rw [e1]
      by_cases e2 : a < a'
      · rw [decide_eq_true (by omega), decide_eq_true (rank_less h h' hl' e2)]
      · have := rank_less h' h hl'.symm (by omega)
        rw [decide_eq_false (by omega), decide_eq_false (by omega)]
/-! ### the next one -/
def sq : Nat → Nat → List Nat
  | _, 0 => []
  | a, m + 1 => a :: sq (a + 1) m
@[simp] theorem sq_len : ∀ (m a : Nat), (sq a m).length = m
  | 0, _ => rfl
  | m + 1, a => by simp [sq, sq_len m]
theorem co_sq {n : Nat} : ∀ (m a : Nat), a + m ≤ n → co n (sq a m) + 1 = C (n - a) m
  | 0, a, _ => by simp [sq, co]
  | m + 1, a, h => by
    have ih := co_sq (n := n) m (a + 1) (by omega)
    rw [show n - a = (n - 1 - a) + 1 by omega, C_ss]
    rw [show n - (a + 1) = n - 1 - a by omega] at ih
    simp only [sq, co, sq_len]
    omega
theorem co_pre {n : Nat} {X Y : List Nat} (h : X.length = Y.length) : ∀ P : List Nat, co n (P ++ X) + co n Y = co n (P ++ Y) + co n X
  | [] => by simp [Nat.add_comm]
  | p :: P => by
    have ih := co_pre (n := n) h P
    simp only [List.cons_append, co, List.length_append, h]
    omega
theorem lot_sq {n m : Nat} : ∀ {a b : Nat}, b ≤ a → a + m ≤ n → LotN n (sq a m) b := by
  induction m with
  | zero => intro a b _ _; exact trivial
  | succ m ih => intro a b h h2; exact ⟨h, by omega, ih (Nat.le_refl _) (by omega)⟩
theorem lot_next {n m a : Nat} {S : List Nat} (h : a + 1 + m ≤ n) : ∀ {P : List Nat} {b : Nat}, LotN n (P ++ a :: S) b → LotN n (P ++ sq (a + 1) m) b
  | [], b, ⟨h1, _, _⟩ => lot_sq (by omega) h
  | p :: P, b, ⟨h1, h2, h3⟩ => ⟨h1, h2, lot_next h h3⟩
theorem rank_next {n m a : Nat} {S P : List Nat} (hS : S.length + 1 = m) (h : a + 1 + m ≤ n) (hc : co n S = 0) (hl : LotN n (P ++ a :: S) 0) : rank n (P ++ sq (a + 1) m) 0 = rank n (P ++ a :: S) 0 + 1 := by
  have r1 := rank_co hl (by omega)
  have r2 := rank_co (lot_next h hl) (by omega)
  have e : (P ++ sq (a + 1) m).length = (P ++ a :: S).length := by simp [← hS]
  have c1 := co_pre (n := n) (X := sq (a + 1) m) (Y := a :: S) (by simp [← hS]) P
  have c2 := co_sq (n := n) m (a + 1) h
  rw [e] at r2
  simp only [co, hS, hc] at c1
  rw [show n - (a + 1) = n - 1 - a by omega] at c2
  omega
theorem co_last {n a : Nat} {S : List Nat} (hc : co n S = 0) (h : n - 1 - a < S.length + 1) : co n (a :: S) = 0 := by
  simp only [co, hc, C_gt h]
theorem nthD_next {n m a : Nat} {S P : List Nat} (hS : S.length + 1 = m) (h : a + 1 + m ≤ n) (hc : co n S = 0) (hl : LotN n (P ++ a :: S) 0) : nthD n ((P ++ a :: S).length : Nat) ((rank n (P ++ a :: S) 0 : Nat) + 1) = ti (zt (P ++ sq (a + 1) m)) := by
  have r := rank_next hS h hc hl
  have hn := lot_next h hl
  have e : (P ++ sq (a + 1) m).length = (P ++ a :: S).length := by simp [← hS]
  have hlt := rank_lt hn (by omega)
  rw [e] at hlt
  have u := unr_rank n 0 _ (by omega) hn
  rw [e, r] at u
  rw [r] at hlt
  have e2 : ((rank n (P ++ a :: S) 0 : Nat) : Int) + 1 = ((rank n (P ++ a :: S) 0 + 1 : Nat) : Int) := by omega
  rw [e2]
  simp only [nthD, Int.toNat_natCast]
  rw [Nat.sub_zero] at hlt
  rw [if_pos (by omega), u]
theorem nthD_last {n : Nat} {l : List Nat} (hl : LotN n l 0) (hc : co n l = 0) : nthD n (l.length : Nat) ((rank n l 0 : Nat) + 1) = .non := by
  have r := rank_co hl (by omega)
  have e2 : ((rank n l 0 : Nat) : Int) + 1 = ((rank n l 0 + 1 : Nat) : Int) := by omega
  rw [e2]
  exact nthD_no (by simp at r; omega)
theorem zt_sq : ∀ (m a : Nat), zt (sq a m) = rng a (a + m)
  | 0, a => by simp [sq, zt, rng]
  | m + 1, a => by
    have ih := zt_sq m (a + 1)
    show (a : Int) :: zt (sq (a + 1) m) = _
    rw [ih]
    unfold rng
    rw [show ((a : Int) + ((m + 1 : Nat) : Int) - a).toNat = m + 1 by omega, List.range_succ_eq_map, List.map_cons, List.map_map, show (((a + 1 : Nat) : Int) + (m : Int) - ((a + 1 : Nat) : Int)).toNat = m by omega]
    congr 1
    · simp
      intro i _
      omega
end DL
/-! DL36: a dict written out; sorted of a dict -/
namespace DL
open PySem PySem.Spec PyProof.Rows L2
def dispGo : List (DT × DT) → KD → EK → Rho → (KD → Rho → Prop) → Prop
  | [], acc, _, ρ, Q => Q acc ρ
  | (a, b) :: r, acc, E, ρ, Q => a E ρ fun x ρ1 => b E ρ1 fun y ρ2 => ∃ k, x.key? = some k ∧ dispGo r (putD acc k y) E ρ2 Q
/-- {k: v, ..} -/
@[simp] def dDisp (ps : List (DT × DT)) : DK := fun E ρ Q => dispGo ps [] E ρ Q
@[simp] theorem dispGo_nil {acc : KD} {E : EK} {ρ : Rho} {Q : KD → Rho → Prop} : dispGo [] acc E ρ Q = Q acc ρ := rfl
@[simp] theorem dispGo_cons {a b : DT} {r : List (DT × DT)} {acc : KD} {E : EK} {ρ : Rho} {Q : KD → Rho → Prop} : dispGo ((a, b) :: r) acc E ρ Q = a E ρ fun x ρ1 => b E ρ1 fun y ρ2 => ∃ k, x.key? = some k ∧ dispGo r (putD acc k y) E ρ2 Q := rfl
section
variable {X : Cx} {RK : Res → Prop} {W : WX} {pos : Pos}
inductive DPs (X : Cx) (RK : Res → Prop) (W : WX) : List (Option Expr) → List Expr → List (DT × DT) → Prop where
  | nil : DPs X RK W [] [] []
  | cons {k v : Expr} {ks : List (Option Expr)} {vs : List Expr} {a b : DT} {r : List (DT × DT)} : DE X RK W k a → DE X RK W v b → DPs X RK W ks vs r → DPs X RK W (some k :: ks) (v :: vs) ((a, b) :: r)
def trsOf (K : PySem.W.Frag) (RK : Res → Prop) (W : WX) (ps : List (DT × DT)) : List (TE × TE) := ps.map fun p => (liftE K RK W p.1, liftE K RK W p.2)
theorem DPs.pps : ∀ {ks : List (Option Expr)} {vs : List Expr} {ps : List (DT × DT)}, DPs X RK W ks vs ps → PPs X pos ks vs (trsOf X.K RK W ps)
  | _, _, _, .nil => pps_nil
  | _, _, _, .cons h1 h2 h3 => pps_cons h1 h2 h3.pps
theorem DPs.len : ∀ {ks : List (Option Expr)} {vs : List Expr} {ps : List (DT × DT)}, DPs X RK W ks vs ps → ks.length = ps.length ∧ vs.length = ps.length ∧ ks.all (·.isSome) = true
  | _, _, _, .nil => ⟨rfl, rfl, rfl⟩
  | _, _, _, .cons h1 h2 h3 => by
    obtain ⟨a, b, c⟩ := h3.len
    exact ⟨by simp [a], by simp [b], by simp [c]⟩
theorem disp_run {K : PySem.W.Frag} {g : G} {σ : L2.St} {E : EK} {Q : KD → Rho → Prop} : ∀ (ps : List (DT × DT)) (acc : KD) (S H : Hp) (ρ : Rho) (Qh : List (V × V) → Hp → Prop), ER K RK g S H σ ρ → ExC K RK W g S E → dispGo ps acc E ρ Q →
    (∀ kvs H' S' ρ' kds, ER K RK g S' H' σ ρ' → Same S S' → kvs.length = ps.length → (∀ kvs0, KReps K S' kvs0 acc → KReps K S' (mergeK kvs0 kvs) kds) → Q kds ρ' → Qh (kvs.map fun kv => (kV kv.1, kv.2)) H') → tPairs (trsOf K RK W ps) σ H Qh
  | [], acc, S, H, ρ, Qh, R, hx, h, hq => hq [] H S ρ acc R (Same.refl S) rfl (fun kvs0 r => r) h
  | (a, b) :: r, acc, S, H, ρ, Qh, R, hx, h, hq => by
    refine ⟨g, S, ρ, _, E, R, h, fun x H1 S1 ρ1 dx R1 e1 r1 q1 => ⟨g, S1, ρ1, _, E, R1, q1, fun y H2 S2 ρ2 dy R2 e2 r2 q2 => ?_, hx.up e1⟩, hx⟩
    obtain ⟨k, hk, q2⟩ := q2
    refine disp_run r _ S2 H2 ρ2 _ R2 ((hx.up e1).up e2) q2 fun kvs H3 S3 ρ3 kds R3 e3 hl hm q3 => ?_
    have ex := (r1.up e2).key hk
    have := hq ((k, y) :: kvs) H3 S3 ρ3 kds R3 ((e1.trans e2).trans e3) (by simp [hl]) (fun kvs0 r0 => hm _ (r0.put (r2.up e3))) q3
    rw [List.map_cons] at this
    rw [ex]
    exact this
theorem dk_disp {ks : List (Option Expr)} {vs : List Expr} {ps : List (DT × DT)} (h : DPs X RK W ks vs ps) (h0 : ps ≠ []) (h15 : ps.length ≤ 15) : DFk X RK W (.Dict ks vs pos) (dDisp ps) := by
  obtain ⟨l1, l2, l3⟩ := h.len
  refine pe_weak (pe_disp h.pps l3 (by omega) (fun e => h0 (List.length_eq_zero_iff.mp (by rw [← l1, e]; rfl))) (by omega)) ?_
  rintro σ H Qh ⟨g, S, ρ, Q, E, R, hd, hq, hx⟩
  intro p hp
  obtain ⟨f1, f2, f3, f4⟩ := R.fresh hp
  let g' : G := ⟨upd g.He p (.dK []), g.S0, g.r⟩
  have into : ∀ {S' H' σ' ρ'}, ER X.K RK g' S' H' σ' ρ' → ER X.K RK g S' H' σ' ρ' ∧ H' p = some (.dK []) ∧ S' p = none ∧ ∀ i, ownAt ρ' i ≠ some p := by
    intro S' H' σ' ρ' R'
    have hne : ∀ a o, g.He a = some o → a ≠ p := fun a o q e => by rw [e, f1] at q; cases q
    have hsp : S' p = none := by
      cases q : S' p with
      | none => rfl
      | some o =>
        rcases R'.vis p o q with z | z
        · have := R.s0 p o z; rw [f2] at this; cases this
        · have e : g'.He p = some (.dK []) := upd_same
          rw [e] at z; cases z
    have hown : ∀ i, ownAt ρ' i ≠ some p := fun i z => by
      have := (R'.ownS z).2
      have e : g'.He p = some (.dK []) := upd_same
      rw [e] at this; cases this
    have hv : ∀ a, g'.He a = none → g.He a = none := fun a z => by
      by_cases e : a = p
      · rw [e]; exact f1
      · have := (show upd g.He p (.dK []) a = none from z); rwa [upd_ne e] at this
    refine ⟨⟨R'.rk, R.heok, R'.sub, fun a o ha q => R'.fr a o ha (show upd g.He p (.dK []) a = some o by rw [upd_ne (hne a o q)]; exact q), fun a o q => (R'.vis a o q).imp id (hv a), R'.s0, R'.fpS, R'.res, R'.len, fun i c q => ?_, R'.apart, R'.nt⟩, R'.fr p _ f3 upd_same, hsp, hown⟩
    have z := R'.cell i c q
    cases c with
    | un => trivial
    | res => exact z
    | dat d => exact z
    | own b ds => obtain ⟨a1, a2, a3, a4⟩ := z; exact ⟨a1, a2, hv _ a3, a4⟩
    | ownK b ds => obtain ⟨a1, a2, a3, a4⟩ := z; exact ⟨a1, a2, hv _ a3, a4⟩
  have R1 := R.alloc0 (o := .dK []) hp
  have R2 : ER X.K RK g' S (upd H p (.dK [])) σ ρ := by
    have hup : ∀ a, a ≠ p → g'.He a = g.He a := fun a e => upd_ne e
    refine ⟨R1.rk, g.r.st (Same.refl _) (fun a ha => upd_ne (show a ≠ p from fun z => f3 (z ▸ ha))) R.heok, R1.sub, fun a o ha q => ?_, fun a o q => ?_, R1.s0, R1.fpS, R1.res, R1.len, fun i c q => ?_, R1.apart, R1.nt⟩
    · by_cases e : a = p
      · subst e
        have e2 : g'.He a = some (.dK []) := upd_same
        rw [e2] at q; cases q; exact upd_same
      · rw [hup a e] at q
        exact R1.fr a o ha q
    · refine (R1.vis a o q).imp id fun z => ?_
      rw [hup a (fun e => by rw [e, f2] at q; cases q)]; exact z
    · have z := R1.cell i c q
      cases c with
      | un => trivial
      | res => exact z
      | dat d => exact z
      | own b ds => obtain ⟨a1, a2, a3, a4⟩ := z; exact ⟨a1, a2, (hup _ (fun e => f4 i (e ▸ own_of q rfl))).trans a3, a4⟩
      | ownK b ds => obtain ⟨a1, a2, a3, a4⟩ := z; exact ⟨a1, a2, (hup _ (fun e => f4 i (e ▸ own_of q rfl))).trans a3, a4⟩
  refine disp_run ps [] S _ ρ _ R2 (fun cls dd σ' H' S' ρ' x R' e r q => hx cls dd σ' H' S' ρ' x (into R').1 e r q) hd fun kvs H' S' ρ' kds R' e hl hm q => ?_
  obtain ⟨i1, i2, i3, i4⟩ := into R'
  refine ⟨i2, kvs, rfl, by omega, ?_⟩
  have hH := hm [] .nil
  obtain ⟨j1, j2, j3, j4⟩ := i1.fresh (p := p) |> fun _ => (⟨f1, i3, f3, i4⟩ : g.He p = none ∧ S' p = none ∧ p ∉ g.r.fp ∧ ∀ i, ownAt ρ' i ≠ some p)
  have R3 : ER X.K RK g S' (upd H' p (.dK (mergeK [] kvs))) σ ρ' := by
    refine i1.step (Same.refl S') (fun b u z => ?_) (fun a u ha z => ?_) (fun a u z => .inl z) i1.fpS (g.r.st (Same.refl S') (fun a ha => upd_ne (show a ≠ p from fun z => f3 (z ▸ ha))) i1.res) (fun i q hq => ⟨upd_ne (show q ≠ p from fun z => i4 i (z ▸ hq)), (i1.ownS hq).1⟩) i1.nt
    · rw [upd_ne (show b ≠ p from fun e => by rw [e, i3] at z; cases z)]; exact i1.sub b u z
    · rw [upd_ne (show a ≠ p from fun e => by rw [e, f1] at z; cases z)]; exact i1.fr a u ha z
  exact hq p _ _ S' ρ' kds R3 e upd_same i3 f1 i4 hH q
/-! ### sorted of a dict -/
def rSortedB (K : PySem.W.Frag) : List V → Hp → VK → Prop := fun xs H Q => rSortedA K xs H Q ∨ ∃ (a : Addr) (kvs : List (Key × V)) (ks : List Int), xs = [.ref a] ∧ Rd H a (.dK kvs) ∧ kvs.map (·.1) = ks.map Sum.inl ∧ ks.length < 64 ∧
    ∀ (ys : List Int) (p : Addr), ys.Perm ks → ys.Pairwise (· ≤ ·) → H p = none → Q (.ref p) (upd H p (.lst (ys.map V.int)))
theorem cr_sortedB (hc : X.calm = true) : CallR X (.builtin "sorted") (rSortedB X.K) := CallR.or cr_sortedA (call_sortedDI hc)
def fSortedB : List D → (List D → Prop) → Prop
  | [.dct ks _], k => ∃ ns : List Int, ks = ns.map Sum.inl ∧ ns.length < 64 ∧ ∀ ns' : List Int, ns'.Perm ns → ns'.Pairwise (· ≤ ·) → k (ns'.map D.int)
  | xs, k => fSortedA xs k
@[simp] theorem fSortedB_0 {xs : List D} {k : List D → Prop} : fSortedB [.lst xs] k = (∃ ns : List Int, xs = ns.map D.int ∧ ∀ ns' : List Int, ns'.Perm ns → ns'.Pairwise (· ≤ ·) → k (ns'.map D.int)) := rfl
@[simp] theorem fSortedB_1 {xs : List D} {k : List D → Prop} : fSortedB [.tup xs] k = (∃ ns : List Int, xs = ns.map D.int ∧ ∀ ns' : List Int, ns'.Perm ns → ns'.Pairwise (· ≤ ·) → k (ns'.map D.int)) := rfl
@[simp] theorem fSortedB_2 {ks : List Key} {ds : List D} {k : List D → Prop} : fSortedB [.dct ks ds] k = (∃ ns : List Int, ks = ns.map Sum.inl ∧ ns.length < 64 ∧ ∀ ns' : List Int, ns'.Perm ns → ns'.Pairwise (· ≤ ·) → k (ns'.map D.int)) := rfl
theorem cf_sortedB : CallF X.K (rSortedB X.K) fSortedB := by
  intro RK g S H σ ρ xs vs k Qh R r h hq
  match xs, r, h with
  | [.dct ks ds], .cons r1 .nil, ⟨ns, e, h64, h⟩ =>
    subst e
    cases r1 with
    | dct a1 a2 a3 =>
      refine .inr ⟨_, _, ns, rfl, .of (R.sub _ _ a1), a2, h64, fun ns' p h1 h2 hp => ?_⟩
      obtain ⟨f1, f2, f3, f4⟩ := R.fresh hp
      exact hq p _ _ S _ (R.alloc0 hp) (Same.refl S) upd_same f2 f1 f4 Reps.of_ints (h ns' h1 h2)
  | [.lst xs], r, h => exact .inl (cf_sortedA RK g S H σ ρ [.lst xs] vs k Qh R r h hq)
  | [.tup xs], r, h => exact .inl (cf_sortedA RK g S H σ ρ [.tup xs] vs k Qh R r h hq)
end
end DL
/-! DL37: sum of a tuple; fractions in lowest terms; ways to choose, summed -/
namespace DL
open PySem PySem.Spec PyProof.Rows L2
section
variable {X : Cx}
def rSumA (K : PySem.W.Frag) : List V → Hp → VK → Prop := fun vs H Q => rSum K vs H Q ∨ ∃ (a : Addr) (ns : List Int), vs = [V.ref a] ∧ SqT K H a (ns.map V.int) ∧ Q (.int ns.sum) H
theorem sum_tp {prog : Program} {w : World} {A : Around} {E : Value → Shared → Prop} {s : Shared} {l : Addr} {its : List Value} {ns : List Int} {Q : Value → Shared → Prop} (hh : A.handled = none) (hl : s.heap.IsTuple l its.toArray) (hi : IntsAre its ns)
    (h : ∀ h' tk t', (∀ b o, s.heap.get? b = some o → h'.get? b = some o) → Q (.int ns.sum t') { s with heap := h', toks := tk }) : wpAny (model prog w) A (call (.builtin "sum") [.ref l]) Q E s := by
  obtain ⟨xs, e⟩ := hi.allInts.items
  have hn : numsOf (intItems xs).toList = ns := by rw [← e]; exact hi.numsOf
  rw [nums_intItems] at hn
  rw [e] at hl
  refine PySem.W.ktm_sumG hh hl fun h' tk t' hk => ?_
  have := h h' tk t' hk
  rw [preSum_eq, List.take_of_length_le (by simp), hn]; exact this
theorem cr_sumA (hc : X.calm = true) : CallR X (.builtin "sum") (rSumA X.K) := by
  refine CallR.or (cr_sum hc) ?_
  rintro pins s σ H vs us Q I r ⟨a, ns, rfl, hs, q⟩
  obtain ⟨its, rv, pl, hz⟩ := I.tuple hs
  rw [Vals.ref1 r]
  exact sum_tp (I.ok.hd hc) pl rv.ints fun h' tk t' hk => ⟨.int _, H, I.kept hk, ⟨_, rfl⟩, q⟩
def fSumA : List D → (D → Prop) → Prop
  | [.lst xs], k => ∃ ns : List Int, xs = ns.map D.int ∧ k (.int ns.sum)
  | [.tup xs], k => ∃ ns : List Int, xs = ns.map D.int ∧ k (.int ns.sum)
  | _, _ => False
@[simp] theorem fSumA_0 {xs : List D} {k : D → Prop} : fSumA [.lst xs] k = (∃ ns : List Int, xs = ns.map D.int ∧ k (.int ns.sum)) := rfl
@[simp] theorem fSumA_1 {xs : List D} {k : D → Prop} : fSumA [.tup xs] k = (∃ ns : List Int, xs = ns.map D.int ∧ k (.int ns.sum)) := rfl
theorem cd_sumA : CallD X.K (rSumA X.K) fSumA := by
  intro RK g S H σ ρ xs vs k Qh R r h hq
  match xs, r, h with
  | [.lst xs], r, h => exact .inl (cd_sum RK g S H σ ρ [.lst xs] vs k Qh R r h hq)
  | [.tup xs], .cons r1 .nil, ⟨ns, e, h⟩ =>
    subst e
    cases r1 with
    | tup a1 a2 =>
      have z := a2.ints
      subst z
      exact .inr ⟨_, ns, rfl, (TupAt.up R.sub a1).sq, hq _ H S _ R (Same.refl S) (.int _) h⟩
end
/-! ### fractions -/
def lowL (a b : Int) : List Int := [a / (Int.gcd a b : Nat), b / (Int.gcd a b : Nat)]
theorem low_mul {k a b : Int} (hk : 0 < k) : lowL (k * a) (k * b) = lowL a b := by
  unfold lowL
  have e : ((Int.gcd (k * a) (k * b) : Nat) : Int) = k * (Int.gcd a b : Nat) := by
    rw [Int.gcd_mul_left, Int.natCast_mul]; congr 1; omega
  rw [e, Int.mul_ediv_mul_of_pos _ _ hk, Int.mul_ediv_mul_of_pos _ _ hk]
theorem low_eq {a b c d : Int} (hb : 0 < b) (hd : 0 < d) (h : a * d = c * b) : lowL a b = lowL c d := by
  rw [← low_mul (k := d) (a := a) (b := b) hd, ← low_mul (k := b) (a := c) (b := d) hb, Int.mul_comm d a, h, Int.mul_comm c b, Int.mul_comm d b]
theorem low_parts {a b : Int} (ha : 0 ≤ a) (hb : 0 < b) : ∃ p q g : Int, lowL a b = [p, q] ∧ 0 < g ∧ p * g = a ∧ q * g = b ∧ 0 ≤ p ∧ p ≤ a ∧ 0 < q ∧ q ≤ b := by
  have hg : 0 < (Int.gcd a b : Nat) := Int.gcd_pos_of_ne_zero_right a (by omega)
  have hgi : 0 < ((Int.gcd a b : Nat) : Int) := by omega
  have d1 : a / (Int.gcd a b : Nat) * (Int.gcd a b : Nat) = a := Int.ediv_mul_cancel (Int.gcd_dvd_left a b)
  have d2 : b / (Int.gcd a b : Nat) * (Int.gcd a b : Nat) = b := Int.ediv_mul_cancel (Int.gcd_dvd_right a b)
  have p0 : 0 ≤ a / (Int.gcd a b : Nat) := Int.ediv_nonneg ha (by omega)
  have q0 : 0 ≤ b / (Int.gcd a b : Nat) := Int.ediv_nonneg (by omega) (by omega)
  have el : lowL a b = [a / (Int.gcd a b : Nat), b / (Int.gcd a b : Nat)] := rfl
  generalize ((Int.gcd a b : Nat) : Int) = g at *
  refine ⟨a / g, b / g, g, ?_, hgi, d1, d2, p0, ?_, ?_, ?_⟩
  · exact el
  · exact Int.ediv_le_self _ ha
  · rcases Int.lt_or_eq_of_le q0 with z | z
    · exact z
    · rw [← z] at d2; omega
  · exact Int.ediv_le_self _ (by omega)
theorem low_plus {a b c p0 p1 q0 q1 : Int} (ha : 0 ≤ a) (hc : 0 ≤ c) (hb : 0 < b) (hp : lowL a b = [p0, p1]) (hq : lowL c b = [q0, q1]) : lowL (p0 * q1 + p1 * q0) (p1 * q1) = lowL (a + c) b := by
  obtain ⟨x0, x1, g, e1, hg, x2, x3, x4, x5, x6, x7⟩ := low_parts ha hb
  obtain ⟨y0, y1, h, e2, hh, y2, y3, y4, y5, y6, y7⟩ := low_parts hc hb
  rw [e1] at hp
  rw [e2] at hq
  simp only [List.cons.injEq, and_true] at hp hq
  obtain ⟨rfl, rfl⟩ := hp
  obtain ⟨rfl, rfl⟩ := hq
  apply low_eq (Int.mul_pos x6 y6) hb
  have l1 : x0 * y1 * b = a * (x1 * y1) := by
    conv => lhs; rw [← x3]
    rw [← x2]
    simp only [Int.mul_comm, Int.mul_left_comm]
  have l2 : x1 * y0 * b = c * (x1 * y1) := by
    conv => lhs; rw [← y3]
    rw [← y2]
    simp only [Int.mul_comm, Int.mul_left_comm]
  rw [Int.add_mul, l1, l2, ← Int.add_mul]
theorem low_0 {b : Int} (hb : 0 < b) : lowL 0 b = [0, 1] := by
  have := low_mul (k := b) (a := 0) (b := 1) hb
  rw [Int.mul_zero, Int.mul_one] at this
  rw [this]; rfl
theorem low_1 {b : Int} (hb : 0 < b) : lowL b b = [1, 1] := by
  have := low_mul (k := b) (a := 1) (b := 1) hb
  rw [Int.mul_one] at this
  rw [this]; rfl
/-! ### sums -/
def sm (g : Nat → Int) : Nat → Int
  | 0 => 0
  | n + 1 => sm g n + g n
theorem sm_congr {f g : Nat → Int} : ∀ {n : Nat}, (∀ i, i < n → f i = g i) → sm f n = sm g n
  | 0, _ => rfl
  | n + 1, h => by
    show sm f n + f n = sm g n + g n
    rw [sm_congr fun i hi => h i (by omega), h n (by omega)]
theorem sm_add (f g : Nat → Int) : ∀ n, sm (fun i => f i + g i) n = sm f n + sm g n
  | 0 => rfl
  | n + 1 => by
    show sm _ n + (f n + g n) = (sm f n + f n) + (sm g n + g n)
    rw [sm_add f g n]; omega
theorem sm_front (g : Nat → Int) : ∀ n, sm g (n + 1) = g 0 + sm (fun i => g (i + 1)) n
  | 0 => by show 0 + g 0 = g 0 + 0; omega
  | n + 1 => by
    have ih := sm_front g n
    show sm g (n + 1) + g (n + 1) = g 0 + (sm (fun i => g (i + 1)) n + g (n + 1))
    rw [ih]; omega
theorem sm_nonneg {g : Nat → Int} : ∀ {n : Nat}, (∀ i, i < n → 0 ≤ g i) → 0 ≤ sm g n
  | 0, _ => Int.le_refl _
  | n + 1, h => by
    have := sm_nonneg (g := g) (n := n) fun i hi => h i (by omega)
    have h2 := h n (by omega)
    show 0 ≤ sm g n + g n
    omega
theorem sm_le {g : Nat → Int} {n : Nat} : ∀ {m : Nat}, n ≤ m → (∀ i, i < m → 0 ≤ g i) → sm g n ≤ sm g m
  | 0, h, _ => by rw [show n = 0 by omega]; exact Int.le_refl _
  | m + 1, h, hg => by
    by_cases e : n = m + 1
    · rw [e]; exact Int.le_refl _
    · have := sm_le (g := g) (n := n) (m := m) (by omega) fun i hi => hg i (by omega)
      have h2 := hg m (by omega)
      show _ ≤ sm g m + g m
      omega
theorem sm_term {g : Nat → Int} {i : Nat} : ∀ {m : Nat}, i < m → (∀ i, i < m → 0 ≤ g i) → g i ≤ sm g m
  | m + 1, h, hg => by
    have h1 := sm_nonneg (g := g) (n := m) fun i hi => hg i (by omega)
    show _ ≤ sm g m + g m
    by_cases e : i = m
    · subst e; omega
    · have := sm_term (g := g) (i := i) (m := m) (by omega) fun i hi => hg i (by omega)
      have h2 := hg m (by omega)
      omega
theorem Cz_nonneg {a b : Int} : 0 ≤ Cz a b := by unfold Cz; split <;> omega
theorem Cz_pascal {a : Nat} (b : Int) : Cz ((a + 1 : Nat) : Int) b = Cz a b + Cz a (b - 1) := by
  by_cases h : b < 0
  · unfold Cz
    rw [if_pos (.inl h), if_pos (.inl h), if_pos (.inl (by omega))]; rfl
  · obtain ⟨k, rfl⟩ : ∃ k : Nat, b = k := ⟨b.toNat, by omega⟩
    cases k with
    | zero =>
      have e : Cz (a : Int) (((0 : Nat) : Int) - 1) = 0 := if_pos (.inl (by omega))
      rw [e, Cz_nat, Cz_nat, C_0, C_0]; rfl
    | succ k =>
      rw [show ((k + 1 : Nat) : Int) - 1 = (k : Nat) by omega, Cz_nat, Cz_nat, Cz_nat, C_ss]
      omega
theorem Cz_over {a : Nat} {b : Int} (h : (a : Int) < b) : Cz a b = 0 := if_pos (.inr h)
theorem Cz_symI {a : Nat} (b : Int) : Cz a ((a : Int) - b) = Cz a b := by
  by_cases h : b < 0
  · rw [Cz_over (by omega)]; exact (if_pos (.inl h)).symm
  by_cases h2 : (a : Int) < b
  · rw [Cz_over h2]; exact if_pos (.inl (by omega))
  obtain ⟨k, rfl⟩ : ∃ k : Nat, b = k := ⟨b.toNat, by omega⟩
  rw [show (a : Int) - k = ((a - k : Nat) : Int) by omega, Cz_nat, Cz_nat, ← C_sym (by omega)]
/-- Vandermonde -/
theorem Cz_sum (N : Nat) : ∀ (m : Nat) (k : Int), sm (fun j => Cz m (j : Int) * Cz N (k - j)) (m + 1) = Cz ((N + m : Nat) : Int) k
  | 0, k => by
    show 0 + Cz ((0 : Nat) : Int) ((0 : Nat) : Int) * Cz N (k - ((0 : Nat) : Int)) = _
    rw [Cz_nat]
    simp
  | m + 1, k => by
    have e : sm (fun j => Cz ((m + 1 : Nat) : Int) (j : Int) * Cz N (k - j)) (m + 1 + 1) = sm (fun j => Cz m (j : Int) * Cz N (k - j)) (m + 1 + 1) + sm (fun j => Cz m ((j : Int) - 1) * Cz N (k - j)) (m + 1 + 1) := by
      rw [← sm_add]
      apply sm_congr
      intro i _
      rw [Cz_pascal, Int.add_mul]
    have e1 : sm (fun j => Cz m (j : Int) * Cz N (k - j)) (m + 1 + 1) = Cz ((N + m : Nat) : Int) k := by
      show sm _ (m + 1) + Cz m ((m + 1 : Nat) : Int) * _ = _
      rw [Cz_over (by omega), Int.zero_mul, Int.add_zero, Cz_sum N m k]
    have e2 : sm (fun j => Cz m ((j : Int) - 1) * Cz N (k - j)) (m + 1 + 1) = Cz ((N + m : Nat) : Int) (k - 1) := by
      rw [sm_front]
      have z : Cz (m : Int) (((0 : Nat) : Int) - 1) = 0 := if_pos (.inl (by omega))
      rw [z, Int.zero_mul, Int.zero_add, ← Cz_sum N m (k - 1)]
      apply sm_congr
      intro i _
      rw [show ((i + 1 : Nat) : Int) - 1 = i by omega, show k - ((i + 1 : Nat) : Int) = k - 1 - i by omega]
    rw [e, e1, e2, show N + (m + 1) = (N + m) + 1 by omega, Cz_pascal]
theorem sum_range (g : Nat → Int) : ∀ n, ((List.range n).map g).sum = sm g n
  | 0 => rfl
  | n + 1 => by rw [List.range_succ, List.map_append, List.sum_append, sum_range g n]; simp [sm]
def T_common_part : TSp := fun ds R _ => ∃ (a b : Int), ds = [.int a, .int b] ∧ (0 < a ∧ a < 2 ^ 250) ∧ (0 ≤ b ∧ b < 2 ^ 250) ∧ R (.int (Int.gcd a b : Nat))
def T_fraction : TSp := fun ds R _ => ∃ (a b : Int), ds = [.int a, .int b] ∧ (0 ≤ a ∧ a < 2 ^ 250) ∧ (0 < b ∧ b < 2 ^ 250) ∧ R (.tup ((lowL a b).map D.int))
theorem mono_common_part : MonoT T_common_part := fun ds R R2 E E2 hR hE x => (let ⟨v1, v2, v3⟩ := x; ⟨v1, v2, (let ⟨v4, v5, v6, v7⟩ := v3; ⟨v4, (let ⟨v8, v9⟩ := v5; ⟨v8, v9⟩), (let ⟨v10, v11⟩ := v6; ⟨v10, v11⟩), hR _ v7⟩)⟩)
theorem len_common_part : ∀ ds R E, T_common_part ds R E → ds.length = 2 := by rintro ds R E ⟨_, _, rfl, _⟩; rfl
theorem mono_fraction : MonoT T_fraction := fun ds R R2 E E2 hR hE x => (let ⟨v1, v2, v3⟩ := x; ⟨v1, v2, (let ⟨v4, v5, v6, v7⟩ := v3; ⟨v4, (let ⟨v8, v9⟩ := v5; ⟨v8, v9⟩), (let ⟨v10, v11⟩ := v6; ⟨v10, v11⟩), hR _ v7⟩)⟩)
theorem len_fraction : ∀ ds R E, T_fraction ds R E → ds.length = 2 := by rintro ds R E ⟨_, _, rfl, _⟩; rfl
@[simp] theorem T_common_part_s {a : Int} {b : Int} {R : D → Prop} {E : Exn → Prop} : T_common_part [.int a, .int b] R E = ((0 < a ∧ a < 2 ^ 250) ∧ (0 ≤ b ∧ b < 2 ^ 250) ∧ R (.int (Int.gcd a b : Nat))) := by
  apply propext
  constructor
  · rintro ⟨_, _, e, h⟩
    simp only [List.cons.injEq, D.tup.injEq, D.lst.injEq, D.int.injEq, D.bl.injEq, D.str.injEq, and_true] at e
    obtain ⟨rfl, rfl⟩ := e
    exact h
  · intro h
    exact ⟨a, b, rfl, h⟩
@[simp] theorem T_fraction_s {a : Int} {b : Int} {R : D → Prop} {E : Exn → Prop} : T_fraction [.int a, .int b] R E = ((0 ≤ a ∧ a < 2 ^ 250) ∧ (0 < b ∧ b < 2 ^ 250) ∧ R (.tup ((lowL a b).map D.int))) := by
  apply propext
  constructor
  · rintro ⟨_, _, e, h⟩
    simp only [List.cons.injEq, D.tup.injEq, D.lst.injEq, D.int.injEq, D.bl.injEq, D.str.injEq, and_true] at e
    obtain ⟨rfl, rfl⟩ := e
    exact h
  · intro h
    exact ⟨a, b, rfl, h⟩
/-- common_part: one, other -/
def r_common_part : DS := (dSeq (dWhile (dTst (dBin fNeA (dVar 1) (dC (.int 0)))) (dPar [0, 1] (dafD (dVar 1) (dafD (dBin fSub (dVar 0) (dBin fMul (dVar 1) (dBin fDiv (dVar 0) (dVar 1)))) dafNil))))
    (dRet (dCB fAbs (dACons (dVar 0) dANil))))
/-- fraction: top, bottom, part, sign -/
def r_fraction : DS := (dSeq (dSet 2 (dCall T_common_part (dACons (dVar 1) (dACons (dVar 0) dANil))))
    (dSeq (dSet 3 (dIfE (dTst (dBin fGt (dVar 1) (dC (.int 0)))) (dC (.int 1)) (dNeg (dC (.int 1)))))
    (dRet (dTup (dACons (dBin fDiv (dBin fMul (dVar 3) (dVar 0)) (dVar 2)) (dACons (dBin fDiv (dBin fMul (dVar 3) (dVar 1)) (dVar 2)) dANil))))))
theorem mulW {i j : Int} (h1 : i.natAbs < 2 ^ 400) (h2 : j.natAbs < 2 ^ 400) : MulOk i j := by
  have key : ∀ n : Nat, n < 2 ^ 400 → n.log2 < 401 := fun n h => by
    by_cases z : n = 0
    · subst z; decide
    · have := (Nat.log2_lt z).mpr h; omega
  have a := key _ h1
  have b := key _ h2
  refine .inr ?_
  show i.natAbs.log2 + j.natAbs.log2 < 1000000
  omega
theorem divV {i j : Int} (h1 : 0 < j) (h2 : j.natAbs < 2 ^ 400) : DivOk i j := by
  refine .inr ⟨h1, ?_⟩
  by_cases z : j.natAbs = 0
  · omega
  · have := (Nat.log2_lt z).mpr h2
    omega
theorem gcd_step {a b : Int} (ha : 0 ≤ a) (hb : 0 < b) : Int.gcd b (a % b) = Int.gcd a b := by
  obtain ⟨m, rfl⟩ : ∃ m : Nat, a = m := ⟨a.toNat, by omega⟩
  obtain ⟨n, rfl⟩ : ∃ m : Nat, b = m := ⟨b.toNat, by omega⟩
  have e : ((m : Int) % (n : Int)) = ((m % n : Nat) : Int) := rfl
  rw [e]
  show Nat.gcd n (m % n) = Nat.gcd m n
  rw [Nat.gcd_comm m n, Nat.gcd_rec n m, Nat.gcd_comm]
theorem pu_common_part : ∀ ds R E, T_common_part ds R E → r_common_part (fun x _ => E x) (Ends0 R) (rho0 2 ds) := by
  rintro ds R E ⟨a, b, rfl, ha, hb, h⟩
  simp [r_common_part]
  refine wh_inv (fun n ρ => ∃ (x y : Int), ρ = [.dat (.int x), .dat (.int y)] ∧ y.toNat ≤ n ∧ (0 ≤ x ∧ x < 2 ^ 250) ∧ (0 ≤ y ∧ y < 2 ^ 250) ∧ Int.gcd x y = Int.gcd a b) ?_ (n := b.toNat) ⟨a, b, rfl, by omega, ⟨by omega, ha.2⟩, hb, rfl⟩
  rintro n ρ K ⟨x, y, rfl, hn, hx, hy, hg⟩ hK
  simp
  refine ⟨fun hz => ?_, fun hz => ?_⟩
  · have h0 := Int.emod_nonneg x (b := y) (by omega)
    have h1 := Int.emod_lt_of_pos x (b := y) (by omega)
    have em : x - y * (x / y) = x % y := by have := Int.emod_def x y; omega
    have hd0 : 0 ≤ x / y := Int.ediv_nonneg (by omega) (by omega)
    have hd : x / y ≤ x := Int.ediv_le_self _ (by omega)
    rw [em]
    obtain ⟨n, rfl⟩ : ∃ n', n = n' + 1 := ⟨n - 1, by omega⟩
    refine ⟨divV (by omega) (by omega), mulW (by omega) (by omega), ?_⟩
    exact hK n _ rfl ⟨y, x % y, rfl, by omega, ⟨by omega, by omega⟩, ⟨by omega, by omega⟩, by rw [gcd_step (by omega) (by omega)]; exact hg⟩
  · subst hz
    have e : (if x < 0 then -x else x) = (Int.gcd a b : Nat) := by
      rw [if_neg (by omega), ← hg, Int.gcd_zero_right]; omega
    rw [e]; exact h
theorem pu_fraction : ∀ ds R E, T_fraction ds R E → r_fraction (fun x _ => E x) (Ends0 R) (rho0 4 ds) := by
  rintro ds R E ⟨a, b, rfl, ha, hb, h⟩
  have hg : 0 < (Int.gcd b a : Nat) := Int.gcd_pos_of_ne_zero_left a (by omega)
  have hgb : ((Int.gcd b a : Nat) : Int) ≤ b := Int.le_of_dvd (by omega) (Int.gcd_dvd_left b a)
  simp [r_fraction, ha, hb]
  have e : b.gcd a = a.gcd b := Int.gcd_comm b a
  refine ⟨by omega, by omega, mulW (by omega) (by omega), divV (by omega) (by omega), mulW (by omega) (by omega), divV (by omega) (by omega), ?_⟩
  rw [e]; exact h
end DL
/-! DL38: list(range(a, b, c)); index of any data in a list; the greatest of pairs -/
namespace DL
open PySem PySem.Spec PyProof.Rows L2
open PySem.W (dataLt dataLt_ii maxD AlikeAll alike alikeAll readsAll_at reads_keeps max_list_data)
section
variable {X : Cx} {RK : Res → Prop} {W : WX} {pos p1 p2 p3 : Pos} {e a b c : Expr} {d da db : DT} {r : DA}
/-! ### list(range(a, b, c)) -/
def rgVC (lo c : Int) (n : Nat) : List V := (List.range n).map fun k : Nat => V.int (lo + (k : Int) * c)
theorem rgVC_rng (lo c : Int) (n : Nat) : rgVC lo c n = (rngC lo c n).map V.int := by unfold rgVC rngC; rw [List.map_map]; rfl
theorem vals_rgC {lo c : Int} {n : Nat} {acc : Array Value} (h : ItemsOf (fun i v => ∃ t, v = .int (lo + i * c) t) acc n) : Vals (rgVC lo c n) acc.toList := by
  have e : acc.toList.length = n := by rw [Array.length_toList]; exact h.1
  unfold rgVC
  rw [← e]
  refine vals_of_get acc.toList _ fun j u hj => ?_
  obtain ⟨t, rfl⟩ := h.2 j u (by rw [← hj, Array.getElem?_toList])
  exact ⟨t, rfl⟩
def tLstRg3 (t : TA) : TE := fun σ H Q => t σ H fun vs H1 => ∃ (i j k : Int) (n : Nat), vs = [.int i, .int j, .int k] ∧ RgC i j k n ∧ n ≤ 100000 ∧ ∀ q, H1 q = none → Q (.ref q) (upd H1 q (.lst (rgVC i k n)))
theorem pe_listRg3 {t : TA} (hc : X.calm = true) (hg : Gl X "list") (hm : X.mg "list" = none) (hg2 : Gl X "range") (hm2 : X.mg "range" = none) (ha : PA X [a, b, c] t)
    (hs : starEach [a, b, c] X.env = (false, eval a X.env) :: starEach [b, c] X.env := by rfl) (hpl : (backTo p2 (starEach [b, c] X.env)).any (·.1) = false := by rfl)
    (na : starEach [.Call (.Name "range" p1) [a, b, c] [] p2] X.env = (false, eval (.Call (.Name "range" p1) [a, b, c] [] p2) X.env) :: starEach [] X.env := by rfl) :
    PE X (.Call (.Name "list" p3) [.Call (.Name "range" p1) [a, b, c] [] p2] [] pos) (tLstRg3 t) := by
  refine ⟨fun pins s σ H Q I h => ?_⟩
  refine Call_ (ld_blt I hg hm boot_list (PyProof.Rows.callWith_type1 (args_cons (?_ : wpAny _ _ (eval (.Call (.Name "range" p1) [a, b, c] [] p2) X.env) _ _ s) na) na))
  refine Call_ (ld_blt I hg2 hm2 boot_range (PyProof.Rows.callWith_type1 (thn (ha.run p2 pins s σ H _ I h) fun us s1 ⟨vs, H1, I1, r1, q1⟩ => ?_) hs hpl))
  obtain ⟨i, j, k, n, e, ⟨c0, c1, c2, c3⟩, c4, q⟩ := q1
  subst e
  cases r1 with
  | cons r rr =>
    cases rr with
    | cons r' rr =>
      cases rr with
      | cons r'' rr =>
        cases rr
        obtain ⟨t, rfl⟩ := r
        obtain ⟨t', rfl⟩ := r'
        obtain ⟨t'', rfl⟩ := r''
        refine call_range_3 c0 ?_ (.inl (PyProof.noPylong_small c1))
        have I2 : Inv X pins σ H1 { s1 with heap := s1.heap.push { cls := .type "range", data := .fields #[.int i t, .int j t', .int k t''] } } := I1.kept (t' := s1.toks) fun b o e => Heap.get?_push_of_some _ e
        refine args_nil ?_
        refine call_list_range (n := n) (I2.ok.hd hc) (IsRange.new ..) c2 c3 (by omega) fun h' tk acc c' hk e' hi => ?_
        refine ⟨.ref _, _, I2.laid hk (Nat.le_refl _) (show ObjOk X.prog X.w _ _ _ (.lst (rgVC i k n)) from ⟨?_, acc.toList, c', vals_rgC hi, ?_⟩), rfl, q _ (I2.hok.fresh (Nat.le_refl _))⟩
        · unfold rgVC; rw [List.length_map, List.length_range, sizeLine_eq]; omega
        · rw [Array.toArray_toList]; exact e'
def lrg3 (vs : List D) (k : List Int → Prop) : Prop := match vs with
  | [.int i, .int j, .int c] => ∃ n, RgC i j c n ∧ n ≤ 100000 ∧ k (rngC i c n)
  | _ => False
@[simp] theorem lrg3_s {i j c : Int} {k : List Int → Prop} : lrg3 [.int i, .int j, .int c] k = ∃ n, RgC i j c n ∧ n ≤ 100000 ∧ k (rngC i c n) := rfl
@[simp] def dfLstRg3 (r : DA) : DF := fun E ρ Q => r E ρ fun vs ρ1 => lrg3 vs fun ns => Q (ns.map D.int) ρ1
theorem df_listRg3 (hm : X.mg "list" = none) (hm2 : X.mg "range" = none) (ha : DAs X RK W [a, b, c] r) (hc : X.calm = true := by rfl) (hg : Gl X "list" := by rfl) (hg2 : Gl X "range" := by rfl)
    (hs : starEach [a, b, c] X.env = (false, eval a X.env) :: starEach [b, c] X.env := by rfl) (hpl : (backTo p2 (starEach [b, c] X.env)).any (·.1) = false := by rfl)
    (na : starEach [.Call (.Name "range" p1) [a, b, c] [] p2] X.env = (false, eval (.Call (.Name "range" p1) [a, b, c] [] p2) X.env) :: starEach [] X.env := by rfl) :
    DFr X RK W (.Call (.Name "list" p3) [.Call (.Name "range" p1) [a, b, c] [] p2] [] pos) (dfLstRg3 r) := pe_weak (pe_listRg3 hc hg hm hg2 hm2 ha hs hpl na) (by
  rintro σ H Qh ⟨g, S, ρ, Q, E, R, h, hq, hx⟩
  refine ⟨g, S, ρ, _, E, R, h, fun vs H1 S1 ρ1 xs R1 e1 r1 q1 => ?_, hx⟩
  unfold lrg3 at q1
  split at q1
  · obtain ⟨n, h1, h2, h3⟩ := q1
    cases r1 with
    | cons u r1 =>
      cases r1 with
      | cons v r1 =>
        cases r1 with
        | cons w r1 =>
          cases r1; cases u; cases v; cases w
          refine ⟨_, _, _, n, rfl, h1, h2, fun p hp => ?_⟩
          obtain ⟨f1, f2, f3, f4⟩ := R1.fresh hp
          exact hq p _ _ S1 ρ1 _ (R1.alloc0 hp) e1 upd_same f2 f1 f4 (by rw [rgVC_rng]; exact Reps.of_ints) h3
  · exact q1.elim)
theorem rgC_52_2 : RgC 0 52 2 26 := ⟨by decide, by decide, by decide +kernel, by decide +kernel⟩
/-! ### the place of any data -/
def fIndexD (x y : D) (k : D → Prop) : Prop := match x with
  | .lst xs => D.plains xs = true ∧ D.deps xs ≤ 60 ∧ y.plain = true ∧ y.dep ≤ 60 ∧ ∃ j, idxD y xs = some j ∧ k (.int (j : Nat))
  | _ => False
@[simp] theorem fIndexD_s {xs : List D} {y : D} {k : D → Prop} : fIndexD (.lst xs) y k = (D.plains xs = true ∧ D.deps xs ≤ 60 ∧ y.plain = true ∧ y.dep ≤ 60 ∧ ∃ j, idxD y xs = some j ∧ k (.int (j : Nat))) := rfl
theorem pys_get : ∀ (xs : List D) (j : Nat), (D.pys xs)[j]? = (xs[j]?).map D.py
  | [], j => by simp [D.pys]
  | x :: xs, 0 => by simp [D.pys]
  | x :: xs, j + 1 => by
    simp only [D.pys, List.getElem?_cons_succ]
    exact pys_get xs j
theorem plain_get : ∀ {xs : List D} {j : Nat} {x : D}, D.plains xs = true → xs[j]? = some x → x.plain = true
  | y :: xs, 0, x, h, e => by simp at e; subst e; simp only [D.plains, Bool.and_eq_true] at h; exact h.1
  | y :: xs, j + 1, x, h, e => by simp only [D.plains, Bool.and_eq_true] at h; exact plain_get h.2 (by simpa using e)
theorem de_indexD (hu : X.A.units + 65 < cLine) (ha : DE X RK W a da) (hb : DE X RK W b db) (hs : starEach (b :: []) X.env = (false, eval b X.env) :: starEach [] X.env := by rfl)
    (h1 : attributeBase a "index" X.env (eval a X.env) = eval a X.env := by rfl) (h2 : (p2.endLine == p3.line) = true := by rfl)
    (h3 : ((backTo p3 (starEach [b] X.env)).all (fun x => !x.1) && (backToKw p3 (keywordEach [] X.env)).all (fun x => x.1.isSome) && decide ([b].length + ([] : List Keyword).length + (if ([] : List Keyword).isEmpty then 0 else 1) < 30)) = true := by rfl) :
    DE X RK W (.Call (.Attribute a "index" p2) [b] [] p3) (dMethL fIndexD da db) :=
  pe_weak (pe_bm PySem.F.plainAttrs_list PySem.F.slot_list_index PySem.F.type_list_index (mt_indexD hu) ha (pa_cons hb pa_nil hs) h1 h3 h2 hs (by rfl)) (by
  rintro σ H Qh ⟨g, S, ρ, Q, E, R, h, hq, hx⟩
  refine ⟨g, S, ρ, _, E, R, h, fun v H1 S1 ρ1 x R1 e1 r1 q1 => ?_, hx⟩
  obtain ⟨q1, q2⟩ := q1
  obtain ⟨xs, rfl⟩ := isL_ex q1
  have r1' := r1
  cases r1 with
  | @lst al vs _ a1 a2 =>
    refine ⟨.inl ⟨rfl, _, SqL.of (R1.sub _ _ a1)⟩, g, S1, ρ1, _, E, R1, q2, fun u H2 S2 ρ2 y R2 e2 r2 q3 => ?_, hx.up e1⟩
    obtain ⟨f1, f2, f3, f4, j, hj, q4⟩ := q3
    unfold idxD at hj
    rw [List.findIdx?_eq_some_iff_getElem] at hj
    obtain ⟨hjl, hj1, hj2⟩ := hj
    have pl : (D.lst xs).plain = true := by simp only [D.plain]; exact f1
    have dl := Rep.dp (.lst xs) (.ref al) pl ((r1'.up e2).up R2.sub)
    have dy := Rep.dp y u f3 (r2.up R2.sub)
    simp only [D.py] at dl
    have gx : ∀ m (hm : m < xs.length), (D.pys xs)[m]? = some (D.py xs[m]) := fun m hm => by rw [pys_get, List.getElem?_eq_getElem hm]; rfl
    have px : ∀ m (hm : m < xs.length), (xs[m]).plain = true := fun m hm => plain_get f1 (List.getElem?_eq_getElem hm)
    refine ⟨al, u, y.py, D.pys xs, j, D.py xs[j], rfl, rfl, dl, dy, ?_, D.shaped_py f3 (by omega), gx j hjl, ?_, fun m z' hm hz' => ?_, hq _ H2 S2 ρ2 _ R2 (e1.trans e2) (.int _) q4⟩
    · have := D.shaped_py pl (by simp only [D.dep]; omega)
      simpa only [D.py] using this
    · rw [D.eqb_py _ _ (px j hjl) f3]; exact hj1
    · rw [gx m (by omega)] at hz'
      cases hz'
      rw [D.eqb_py _ _ (px m (by omega)) f3]
      have := hj2 m hm
      simpa using this)
/-! ### the greatest of pairs -/
def prD' (p : Int × Int) : D := .tup [.int p.1, .int p.2]
def prP (p : Int × Int) : PyData := .tuple [.int p.1, .int p.2]
def prLt (p q : Int × Int) : Prop := p.1 < q.1 ∨ (p.1 = q.1 ∧ p.2 < q.2)
instance (p q : Int × Int) : Decidable (prLt p q) := inferInstanceAs (Decidable (_ ∨ _))
theorem prP_lt (p q : Int × Int) : dataLt (prP p) (prP q) = decide (prLt p q) := dataLt_ii _ _ _ _
theorem prP_inj {p q : Int × Int} (h : prP p = prP q) : p = q := by
  unfold prP at h
  simp at h
  exact Prod.ext h.1 h.2
def mxP (p : Int × Int) (ps : List (Int × Int)) : Int × Int := ps.foldl (fun a y => if prLt a y then y else a) p
theorem mxP_py (ps : List (Int × Int)) : ∀ p, maxD (prP p) (ps.map prP) = prP (mxP p ps) := by
  unfold maxD mxP
  induction ps with
  | nil => intro p; rfl
  | cons q r ih =>
    intro p
    rw [List.map_cons, List.foldl_cons, List.foldl_cons, prP_lt]
    by_cases h : prLt p q
    · rw [if_pos (decide_eq_true h), if_pos h]; exact ih q
    · rw [if_neg (by simpa using h), if_neg h]; exact ih p
theorem prLt_trans {p q r : Int × Int} (h : ¬ prLt p q) (h2 : ¬ prLt q r) : ¬ prLt p r := by unfold prLt at *; omega
theorem mxP_no : ∀ (ps : List (Int × Int)) (p : Int × Int), ¬ prLt (mxP p ps) p ∧ ∀ q ∈ ps, ¬ prLt (mxP p ps) q
  | [], p => ⟨by unfold mxP prLt; simp, fun q hq => by cases hq⟩
  | a :: r, p => by
    by_cases h : prLt p a
    · have e : mxP p (a :: r) = mxP a r := by unfold mxP; rw [List.foldl_cons, if_pos h]
      rw [e]
      obtain ⟨h1, h2⟩ := mxP_no r a
      refine ⟨fun z => h1 (by unfold prLt at *; omega), fun q hq => ?_⟩
      rcases List.mem_cons.mp hq with z | z
      · subst z; exact h1
      · exact h2 q z
    · have e : mxP p (a :: r) = mxP p r := by unfold mxP; rw [List.foldl_cons, if_neg h]
      rw [e]
      obtain ⟨h1, h2⟩ := mxP_no r p
      refine ⟨h1, fun q hq => ?_⟩
      rcases List.mem_cons.mp hq with z | z
      · subst z; exact prLt_trans h1 h
      · exact h2 q z
def rMaxP (K : PySem.W.Frag) : List V → Hp → VK → Prop := fun vs H Q => ∃ (a : Addr) (xs : List V) (p : Int × Int) (ps : List (Int × Int)), vs = [V.ref a] ∧ SqL K H a xs ∧ DpAll K H xs ((p :: ps).map prP) ∧
  ∀ (i : Nat) (x : V), xs[i]? = some x → (p :: ps)[i]? = some (mxP p ps) → Q x H
theorem prP_depth (ps : List (Int × Int)) : PyData.depthAll (ps.map prP) ≤ 1 := by
  induction ps with
  | nil => simp [PyData.depthAll]
  | cons p r ih => simp only [List.map_cons, PyData.depthAll, prP, PyData.depth]; omega
theorem cr_maxP (hc : X.calm = true) (hu : X.A.units + 65 < cLine) : CallR X (.builtin "max") (rMaxP X.K) := by
  rintro pins s σ H vs us Q I r ⟨a, xs, p, ps, rfl, hs, hd, q⟩
  obtain ⟨its, rv, hl, _⟩ := I.list hs
  rw [Vals.ref1 r]
  obtain ⟨as, hr⟩ := Dp.readsAll I _ xs its hd rv
  have al : AlikeAll ((p :: ps).map prP) := ⟨fun x hx y hy => by
    obtain ⟨p1, _, rfl⟩ := List.mem_map.mp hx
    obtain ⟨p2, _, rfl⟩ := List.mem_map.mp hy
    simp [prP, alike, alikeAll], fun x hx => by
    obtain ⟨p1, _, rfl⟩ := List.mem_map.mp hx
    simp [prP]⟩
  have hdp := prP_depth (p :: ps)
  refine max_list_data (x := prP p) (xs := ps.map prP) (I.ok.hd hc) hl.isList hr al (by show _ + PyData.depthAll ((p :: ps).map prP) < _; omega) fun i v h' tk bs hv hrd hk => ?_
  have hlen : its.length = (p :: ps).length := by rw [SeqAt.ReadsAll.length _ its as hr, List.length_map]
  have hi : i < its.length := by
    have := (Array.getElem?_eq_some_iff.mp hv).1
    simpa using this
  have hvi : its[i]? = some v := by simpa using hv
  obtain ⟨x, hx, rx⟩ : ∃ x, xs[i]? = some x ∧ RelV x v := by
    have hxl : i < xs.length := by rw [rv.length]; exact hi
    obtain ⟨u, hu1, hu2⟩ := Vals.get rv (List.getElem?_eq_getElem hxl)
    rw [hvi] at hu1
    cases hu1
    exact ⟨xs[i], List.getElem?_eq_getElem hxl, hu2⟩
  have hp : (p :: ps)[i]? = some (mxP p ps) := by
    have hil : i < (p :: ps).length := by omega
    obtain ⟨b2, hr2, _⟩ := readsAll_at hr i v hvi
    have hk2 := reads_keeps hk hr2
    have cl : ∀ z : Int × Int, (prP z).canLay0 = true := fun z => by simp [prP, PyData.canLay0, PyData.canLayAll0]
    have e1 : ((p :: ps).map prP).getD i .none = prP ((p :: ps)[i]) := by
      rw [List.getD_eq_getElem?_getD, List.getElem?_map, List.getElem?_eq_getElem hil]; rfl
    rw [e1] at hk2
    have e2 := SeqAt.readOf_eq (cl _) hk2
    rw [mxP_py] at hrd
    have e3 := SeqAt.readOf_eq (cl _) hrd
    rw [List.getElem?_eq_getElem hil, prP_inj (e2.symm.trans e3)]
  exact ⟨x, H, I.kept hk, rx, q i x hx hp⟩
def fMaxP : List D → (D → Prop) → Prop
  | [.lst xs], k => ∃ ps : List (Int × Int), xs = ps.map prD' ∧ ps ≠ [] ∧ ∀ m ∈ ps, (∀ q ∈ ps, ¬ prLt m q) → k (prD' m)
  | _, _ => False
@[simp] theorem fMaxP_0 {xs : List D} {k : D → Prop} : fMaxP [.lst xs] k = (∃ ps : List (Int × Int), xs = ps.map prD' ∧ ps ≠ [] ∧ ∀ m ∈ ps, (∀ q ∈ ps, ¬ prLt m q) → k (prD' m)) := rfl
theorem pys_pr : ∀ ps : List (Int × Int), D.pys (ps.map prD') = ps.map prP
  | [] => by simp [D.pys]
  | p :: r => by
    rw [List.map_cons, D.pys, pys_pr r, List.map_cons]
    simp [prD', prP, D.py, D.pys]
theorem plains_pr : ∀ ps : List (Int × Int), D.plains (ps.map prD') = true
  | [] => by simp [D.plains]
  | p :: r => by rw [List.map_cons, D.plains, plains_pr r]; simp [prD', D.plain, D.plains]
theorem cd_maxP : CallD X.K (rMaxP X.K) fMaxP := by
  intro RK g S H σ ρ xs vs k Qh R r h hq
  match xs, r, h with
  | [.lst xs], .cons r1 .nil, ⟨ps, e, hne, h⟩ =>
    subst e
    cases r1 with
    | lst a1 a2 =>
      cases ps with
      | nil => exact absurd rfl hne
      | cons p ps =>
        have dd := Reps.dps _ _ (plains_pr (p :: ps)) (a2.up R.sub)
        rw [pys_pr] at dd
        refine ⟨_, _, p, ps, rfl, SqL.of (R.sub _ _ a1), dd, fun i x hx hp => ?_⟩
        obtain ⟨y, hy, ry⟩ := a2.get hx
        rw [List.getElem?_map, hp] at hy
        cases hy
        obtain ⟨n1, n2⟩ := mxP_no ps p
        exact hq _ H S _ R (Same.refl S) ry (h _ (List.mem_of_getElem? hp) fun q hq => by
          rcases List.mem_cons.mp hq with z | z
          · subst z; exact n1
          · exact n2 q z)
end
end DL
/-! DL39: errors of the program: raised, asked for their class -/
namespace DL
open PySem PySem.Spec PyProof.Rows L2

abbrev bmV : List Value := [.type "ValueError", .type "Exception", .type "BaseException", .type "object"]
/-- one error class as the top has left it, against the others; B the class that all except clauses name -/
def errB (K : PySem.W.Frag) (B : Str) (xs : List Str) (x : Str) : Bool :=
  match PySem.W.nsIn K mainGlobals x, PySem.W.nsIn K mainGlobals B with
  | some (some (.ref C)), some (some (.ref CB)) =>
    PySem.W.keepIn K (.ref C) && PySem.W.excIn K C bmV "ValueError.__new__" && (PySem.W.subIn K (.ref C) (.type "BaseException") == some true) && (PySem.W.typeIn K (.ref C) == some (.type "type"))
      && (PySem.W.exmOne K (.ref C) (.ref CB) == some true) && (PySem.W.kitOne K (.ref C) (.type "ValueError") == some true)
      && (PySem.W.findIn K (.ref C) "__getattribute__" == some (some (.builtin "BaseException.__getattribute__"))) && (PySem.W.findIn K (.ref C) "__getattr__" == some none) && PySem.W.hasDictIn K C
      && (PySem.W.findIn K (.ref C) "__class__" == some (some (.builtin "object.__class__"))) && (PySem.W.specialIn K (.builtin "object.__class__") "__get__" == some (some (.builtin "getset_descriptor.__get__")))
      && (PySem.W.takesIn K (.builtin "object.__class__") == some true) && (PySem.W.mroIn K C (.type "object") == some true)
      && xs.all (fun y => match PySem.W.nsIn K mainGlobals y with
        | some (some (.ref D)) => PySem.W.kitOne K (.ref C) (.ref D) == some (decide (x = y))
        | _ => false)
  | _, _ => false
def errsB (K : PySem.W.Frag) (B : Str) (xs : List Str) : Bool := xs.all (errB K B xs)
structure ErrOk (K : PySem.W.Frag) (B : Str) (xs : List Str) (x : Str) (C : Addr) : Prop where
  at_ : PySem.W.nsIn K mainGlobals x = some (some (.ref C))
  keep : PySem.W.keepIn K (.ref C) = true
  exc : PySem.W.excIn K C bmV "ValueError.__new__" = true
  sub : PySem.W.subIn K (.ref C) (.type "BaseException") = some true
  ty : PySem.W.typeIn K (.ref C) = some (.type "type")
  exm : ∃ CB, PySem.W.nsIn K mainGlobals B = some (some (.ref CB)) ∧ PySem.W.exmOne K (.ref C) (.ref CB) = some true
  val : PySem.W.kitOne K (.ref C) (.type "ValueError") = some true
  isC : ExcC K C
  kit : ∀ y ∈ xs, ∃ D, PySem.W.nsIn K mainGlobals y = some (some (.ref D)) ∧ PySem.W.kitOne K (.ref C) (.ref D) = some (decide (x = y))
theorem errOk_of {K : PySem.W.Frag} {B : Str} {xs : List Str} {x : Str} (h : errB K B xs x = true) : ∃ C, ErrOk K B xs x C := by
  unfold errB at h
  split at h
  · rename_i C CB h1 h2
    simp only [Bool.and_eq_true, beq_iff_eq, List.all_eq_true] at h
    obtain ⟨⟨⟨⟨⟨⟨⟨⟨⟨⟨⟨⟨⟨a1, a2⟩, a3⟩, a4⟩, a5⟩, a6⟩, a7⟩, a8⟩, a9⟩, a10⟩, a11⟩, a12⟩, a13⟩, a14⟩ := h
    refine ⟨C, h1, a1, a2, a3, a4, ⟨CB, h2, a5⟩, a6, ⟨a7, a8, a3, a9, a10, a11, a12, a13⟩, fun y hy => ?_⟩
    have z := a14 y hy
    split at z
    · rename_i D hD
      exact ⟨D, hD, beq_iff_eq.mp z⟩
    · cases z
  · cases h
theorem errsOk_of {K : PySem.W.Frag} {B : Str} {xs : List Str} (h : errsB K B xs = true) : ∀ x ∈ xs, ∃ C, ErrOk K B xs x C := fun x hx => errOk_of (List.all_eq_true.mp h x hx)
/-- the error classes of a law: their names, and that the module's names are what the top has left -/
structure Errs (K : PySem.W.Frag) (mg : Str → Option Value) (B : Str) (xs : List Str) : Prop where
  ok : ∀ x ∈ xs, ∃ C, ErrOk K B xs x C
  mg : ∀ x (v : Value), PySem.W.nsIn K mainGlobals x = some (some v) → mg x = some v
theorem errs_mk {K : PySem.W.Frag} {mg : Str → Option Value} {h : Heap} {B : Str} {xs : List Str} (X : K.In h) (G : h.Ns mainGlobals mg) (e : errsB K B xs = true) : Errs K mg B xs :=
  ⟨errsOk_of e, fun _ _ q => PySem.W.mg_of X G q⟩

/-! ### raise -/
@[simp] def dRaise (x : Str) : DS := fun E _ ρ => E (x, []) ρ
section
variable {X : Cx} {RK : Res → Prop} {W : WX} {x B : Str} {xs : List Str} {p pos pos' : Pos}
theorem pmk_own0 {C : Addr} {bmB : List Value} {Bb newId initId : String} (F : ExcBaseFacts Bb newId initId bmB) (q : PySem.W.excIn X.K C bmB newId = true) (gC : X.mg x = some (.ref C)) (kC : PySem.W.keepIn X.K (.ref C) = true) (r : Raises X (.ref C)) (hg : Gl X x)
    (hdb : (x == ("__debug__" : Str)) = false := by decide) : PMk X (.Call (.Name x p) [] [] pos) (fun _ H Q => Q (.ref C) none H) := by
  intro pins s σ H Q I h
  apply wpAny_Call_Name_kw
  apply ld_glob I hg gC _ hdb
  apply PySem.W.callWith_K0 I.kIn kC
  obtain ⟨bm, N, nm, qn, bs, hdct, sn, sub, ab, col, dd, k0, k1, k2, k3, k5, mN, hC, hN, hni, T⟩ := exc_obj I.kIn q
  refine wpAny_call_exc_subT F T hC hN hni (fun h' e hm => ?_) (by show 0 ≤ sizeLine; omega)
  exact mk_of I hm r h (I.hok.gone hm.new)
theorem st_raise (T : Errs X.K X.mg B xs) (hx : x ∈ xs) (tk : Takes X W) (hg : Gl X x) (hc : X.calm = true := by rfl) (hdb : (x == ("__debug__" : Str)) = false := by decide) : DSt X RK W (.Raise (some (.Call (.Name x p) [] [] pos)) none pos') (dRaise x) := by
  obtain ⟨C, h⟩ := T.ok x hx
  refine ps_weak (ps_raise hc tk (pmk_own0 PySem.F.excBase_ValueError h.exc (T.mg _ _ h.at_) h.keep (raises_own h.sub h.ty) hg hdb)) ?_
  rintro D σ H ⟨g, S, ρ, Kd, E, R, q, _, _, _, _, hx⟩
  exact hx (.ref C) none σ H S ρ (x, []) R (Same.refl S) ⟨h.at_, .inl ⟨rfl, rfl⟩⟩ q
end

/-! ### isinstance of the error that a suite has caught -/
/-- isinstance(e, y), e the error of the class x at a -/
def dIsE (a : Addr) (x : Str) (i : Nat) (y : Str) : DT := fun _ ρ Q => ρ[i]? = some (.dat (.raw (.ref a))) ∧ Q (.bl (decide (x = y))) ρ
def dIsV (a : Addr) (i : Nat) : DT := fun _ ρ Q => ρ[i]? = some (.dat (.raw (.ref a))) ∧ Q (.bl true) ρ
section
variable {X : Cx} {RK : Res → Prop} {W : WX} {x y e B : Str} {xs : List Str} {p1 p2 p3 pos : Pos} {a D : Addr} {oe : Obj} {pn : List (Addr × Obj)}
theorem de_isE (T : Errs X.K X.mg B xs) (hx : x ∈ xs) (hy : y ∈ xs) (hD : PySem.W.nsIn X.K mainGlobals x = some (some (.ref D))) (hz : Zc (.ref D) none oe) (hf : ∃ vs, oe.data = .fields vs) (hb : X.mg "isinstance" = none) (i : Nat)
    (hN : X.N[i]? = some e := by rfl) (hv : Vis X.env.scope e := by first | exact Or.inl rfl | exact Or.inr (Or.inl rfl) | exact Or.inr (Or.inr rfl)) (hd1 : (e == ("__debug__" : Str)) = false := by decide) (hd2 : (e == ("__classdict__" : Str)) = false := by decide)
    (hgy : Gl X y := by rfl) (hdy : (y == ("__debug__" : Str)) = false := by decide) (hg : Gl X "isinstance" := by rfl) : DE (X.suite a ((a, oe) :: pn)) RK W (.Call (.Name "isinstance" p1) [.Name e p2, .Name y p3] [] pos) (dIsE a x i y) := by
  obtain ⟨C, h⟩ := T.ok x hx
  have e1 := h.at_
  rw [hD] at e1
  cases e1
  obtain ⟨D2, h2, h3⟩ := h.kit y hy
  have ha : PA (X.suite a ((a, oe) :: pn)) [.Name e p2, .Name y p3] (tCons (tVar i) (tCons (tC (.ref D2)) tNil)) := pa_cons (pe_var (X := X.suite a ((a, oe) :: pn)) hN hv hd1 hd2) (pa_cons (pe_glob (X := X.suite a ((a, oe) :: pn)) (v := .ref D2) hgy (T.mg _ _ h2) rfl hdy) pa_nil)
  refine pe_weak (pe_callB (call_isE h.isC hz hf) hg hb (by rfl) ha) ?_
  rintro σ H Qh ⟨g, S, ρ, Q, E, R, ⟨h4, h5⟩, hq, hx⟩
  obtain ⟨v, h6, h7⟩ := R.cell i _ h4
  cases h7
  exact ⟨_, h6, _, _, _, rfl, fun u hu => hu, h3, hq _ H S ρ _ R (Same.refl S) (.bl _) h5⟩
theorem de_isV (T : Errs X.K X.mg B xs) (hx : x ∈ xs) (hD : PySem.W.nsIn X.K mainGlobals x = some (some (.ref D))) (hz : Zc (.ref D) none oe) (hf : ∃ vs, oe.data = .fields vs) (hb : X.mg "isinstance" = none) (hbv : X.mg "ValueError" = none) (i : Nat)
    (hN : X.N[i]? = some e := by rfl) (hv : Vis X.env.scope e := by first | exact Or.inl rfl | exact Or.inr (Or.inl rfl) | exact Or.inr (Or.inr rfl)) (hd1 : (e == ("__debug__" : Str)) = false := by decide) (hd2 : (e == ("__classdict__" : Str)) = false := by decide)
    (hgy : Gl X "ValueError" := by rfl) (hg : Gl X "isinstance" := by rfl) : DE (X.suite a ((a, oe) :: pn)) RK W (.Call (.Name "isinstance" p1) [.Name e p2, .Name "ValueError" p3] [] pos) (dIsV a i) := by
  obtain ⟨C, h⟩ := T.ok x hx
  have e1 := h.at_
  rw [hD] at e1
  cases e1
  have ha : PA (X.suite a ((a, oe) :: pn)) [.Name e p2, .Name "ValueError" p3] (tCons (tVar i) (tCons (tC (.ty "ValueError")) tNil)) := pa_cons (pe_var (X := X.suite a ((a, oe) :: pn)) hN hv hd1 hd2) (pa_cons (pe_bltn (X := X.suite a ((a, oe) :: pn)) (v := .ty "ValueError") hgy hbv (by rfl) rfl (by decide)) pa_nil)
  refine pe_weak (pe_callB (call_isE h.isC hz hf) hg hb (by rfl) ha) ?_
  rintro σ H Qh ⟨g, S, ρ, Q, E, R, ⟨h4, h5⟩, hq, hx⟩
  obtain ⟨v, h6, h7⟩ := R.cell i _ h4
  cases h7
  exact ⟨_, h6, _, _, _, rfl, fun u hu => hu, h.val, hq _ H S ρ _ R (Same.refl S) (.bl _) h5⟩
end
end DL
/-! DL40: a lambda without parameters, made and handed to a def that calls it and catches what it raises -/
namespace DL
open PySem PySem.Spec PyProof.Rows L2 LamX

/-- the table at P, its code objects in sight -/
def TabV (S H : Hp) (P : Addr) (q : Str) : Prop := ∃ ps : Array Value, H P = some (.tbl ps) ∧ TriplesOk ps.toList ∧ ∀ (pos : Pos) (cv : Value), codeAmong pos ps.toList = some cv → ∃ c, cv = .ref c ∧ S c = some (CodeO c q)
theorem codeO_nt {c : Addr} {q : Str} : NT (CodeO c q) := fun ps z => codeO_ne ps z
/-- the heap behind the making of a lambda: as before, or with one code object more -/
def LamH (S H S1 H1 : Hp) (P : Addr) (q : Str) (ps : Array Value) : Prop :=
  (S1 = S ∧ H1 = H) ∨ ∃ (c : Addr) (ps' : Array Value), H c = none ∧ S1 = upd S c (CodeO c q) ∧ H1 = upd (upd H P (.tbl ps')) c (CodeO c q) ∧ TriplesOk ps'.toList ∧
    ∀ (pos : Pos) (cv : Value), codeAmong pos ps'.toList = some cv → codeAmong pos ps.toList = some cv ∨ cv = .ref c
section
variable {X : Cx} {pins : List (Addr × Obj)} {σ : L2.St} {S H : Hp} {s : Shared}
theorem lam_mk {c P : Addr} {params : Arguments} {body : Expr} {scope : Scope} {pos : Pos} {E : Value → Shared → Prop} {Q : Value → Shared → Prop} {ps : Array Value} (I : Inv X pins σ H s) (TB : TabB X.base X.mg c P) (hcode : X.env.code = .ref c) (sub : Same S H)
    (hP : H P = some (.tbl ps)) (ht : TriplesOk ps.toList) (ha : ∀ (pos : Pos) (cv : Value), codeAmong pos ps.toList = some cv → ∃ c, cv = .ref c ∧ S c = some (CodeO c (X.env.qual ++ "<lambda>")))
    (hdef : defaultsOf params X.env = ([], [])) (hfree : ∀ y ∈ scope.names, y.2 = .free → ∃ c, X.env.cells.lookup y.1 = some c)
    (h : ∀ (f c' : Addr) (pm ctv : Value) (S1 H1 : Hp) (s' : Shared), Inv X pins σ H1 s' → LamH S H S1 H1 P (X.env.qual ++ "<lambda>") ps →
      s'.heap.get? f = some (PySem.W.kla_obj "<lambda>" (X.env.qual ++ "<lambda>") params body scope (cloFrom X.env.cells scope.names []) pm c' ctv) → H1 f = none → f ∉ frs X.stack → H1 c' = some (CodeO c' (X.env.qual ++ "<lambda>")) → Q (.ref f) s') :
    wpAny (model X.prog X.w) X.A (eval (.Lambda params body scope pos) X.env) Q E s := by
  apply PySem.W.kla_eval hdef
  have bP : s.heap.BuiltinsAt X.mg P := TB.bm.keeps I.bk
  have hP' : s.heap.get? P = some { cls := .none, data := .fields ps } := I.hok P _ hP
  have nofr : ∀ f, s.heap.objs.size ≤ f → f ∉ frs X.stack := fun f hf z => by
    rcases List.mem_cons.mp (I.stkSub _ z) with e | e
    · have h1 := I.lt
      rw [← e] at h1
      exact Nat.lt_irrefl _ (Nat.lt_of_lt_of_le h1 hf)
    · exact I.nofs hf e
  cases hc : codeAmong pos ps.toList with
  | some cv =>
    obtain ⟨c', e, hco⟩ := ha pos cv hc
    subst e
    refine PySem.W.kla_makeFunctionHit (mg := X.mg) (c := c) (P := P) (ps := ps) (closure_ok hfree) I.ok.glob (I.mod.glob.keeps I.bk) hcode (TB.code.keeps I.bk) hP' ht hc bP fun ctv h' tk hx hsz => ?_
    have I1 : Inv X pins σ H { s with heap := h'.push (PySem.W.kla_obj "<lambda>" (X.env.qual ++ "<lambda>") params body scope (cloFrom X.env.cells scope.names []) ((X.mg "__name__").getD .none) c' ctv), toks := tk } := I.kept fun b o e => Heap.get?_push_of_some _ (hx b o e)
    exact h h'.objs.size c' ((X.mg "__name__").getD .none) ctv S H _ I1 (.inl ⟨rfl, rfl⟩) (Heap.get?_push_size _ rfl) (I.hok.fresh hsz) (nofr _ hsz) (sub _ _ hco)
  | none =>
    refine PySem.W.kla_makeFunction (mg := X.mg) (c := c) (P := P) (ps := ps) (closure_ok hfree) I.ok.glob (I.mod.glob.keeps I.bk) hcode (TB.code.keeps I.bk) hP' ht hc TB.gP bP fun c' ctv h' tk hx hge hlt hrec htb => ?_
    obtain ⟨c2, oc, vs, t, e2, hoc, hd, hv⟩ := hrec
    cases e2
    have hsz : s.heap.objs.size ≤ h'.objs.size := Nat.le_trans hge (Nat.le_of_lt hlt)
    have nC : H c' = none := I.hok.fresh hge
    have I1 := inv_table (t' := tk) (more := #[rawInt pos.line, rawInt pos.col, .ref c']) (h' := h'.push (PySem.W.kla_obj "<lambda>" (X.env.qual ++ "<lambda>") params body scope (cloFrom X.env.cells scope.names []) ((X.mg "__name__").getD .none) c' ctv)) I hP
      (fun b o hb e => Heap.get?_push_of_some _ (hx b o hb e)) (Heap.get?_push_of_some _ htb) hge ⟨oc, vs, t, Heap.get?_push_of_some _ hoc, hd, hv⟩
    have eL : (ps ++ #[rawInt pos.line, rawInt pos.col, .ref c']).toList = ps.toList ++ [rawInt pos.line, rawInt pos.col, .ref c'] := by simp
    refine h h'.objs.size c' ((X.mg "__name__").getD .none) ctv (upd S c' (CodeO c' (X.env.qual ++ "<lambda>"))) _ _ I1 (.inr ⟨c', _, nC, rfl, rfl, ?_, fun p' cv hcv => ?_⟩) (Heap.get?_push_size _ rfl) ?_ (nofr _ hsz) upd_same
    · rw [eL]; exact PySem.TriplesOk_snoc _ _ _ _ ht
    · rw [eL] at hcv
      exact among_app _ ht hcv
    · have n1 : h'.objs.size ≠ c' := Nat.ne_of_gt hlt
      have n2 : h'.objs.size ≠ P := Nat.ne_of_gt (Nat.lt_of_lt_of_le (Heap.lt_size hP') hsz)
      rw [upd_ne n1, upd_ne n2]
      exact I.hok.fresh hsz
end

/-- what the call of the lambda asks: slot 0 holds it -/
def tAct (f c' : Addr) (q : Str) (W : WX) (tl : XK → Hp → VK → Prop) : TE := fun σZ HZ Q => σZ[0]? = some (some (.ref f)) ∧ HZ c' = some (CodeO c' q) ∧ tl (WE W σZ) HZ Q
section
variable {X : Cx} {pins : List (Addr × Obj)} {σ : L2.St} {H HZ : Hp} {s s1 : Shared}
/-- x(), in the def that got the lambda -/
theorem pe_act0 {CXg : CXT} {Eg : XK} {Ng : List Str} {qg : Str} {sg : Scope} {g f c' : Addr} {cdg pm ctv : Value} {params : Arguments} {body : Expr} {scope : Scope} {k : Nat} {γ : Bool} {a : Str} {pn : List (Addr × Obj)} {xe : Value → Shared → Prop} {W : WX} {tb : XK → TE} {p1 p2 : Pos}
    (I : Inv X pins σ H s) (L : LamS X.env.scope scope) (hf : s.heap.get? f = some (PySem.W.kla_obj "<lambda>" (X.env.qual ++ "<lambda>") params body scope (cloFrom X.env.cells scope.names []) pm c' ctv)) (hfn : H f = none) (hfr : f ∉ frs X.stack)
    (hbind : bindArgs (PySem.W.kla_fn "<lambda>" (X.env.qual ++ "<lambda>") params body scope (cloFrom X.env.cells scope.names []) pm (.ref c') ctv) ⟨[], []⟩ = pure [])
    (tk : Takes ((cxOf CXg X.prog X.w X.K X.mg X.base Ng qg sg g cdg X.A X.stack s H Eg).tr pn xe) W) (hr : Room (k + 1) (X.A.deeper (envOfC qg sg s.heap.objs.size g cdg))) (hgd : GdB γ X.A)
    (hbody : ∀ (A : Around) (outer : List Env) (s : Shared) (H : Hp) (E : XK), Room k (A.deeper (lamEnv X scope s.heap.objs.size f c')) → GdB γ (A.deeper (lamEnv X scope s.heap.objs.size f c')) → PE (lamCx X A outer s H E scope f c') body (tb E))
    (hN : Ng[0]? = some a) (hv : Vis sg a) (hd : (a == ("__debug__" : Str)) = false := by decide) (hcd : (a == ("__classdict__" : Str)) = false := by decide) :
    PE ((cxOf CXg X.prog X.w X.K X.mg X.base Ng qg sg g cdg X.A X.stack s H Eg).tr pn xe) (.Call (.Name a p1) [] [] p2) (tAct f c' (X.env.qual ++ "<lambda>") W fun E HZ Q => tb E σ HZ Q) := by
  constructor
  intro pinsZ sZ σZ HZ Q IZ h
  obtain ⟨hs, hc, ht⟩ := h
  apply wpAny_Call_Name_kw
  refine thn ((pe_var (pos := p1) (i := 0) hN hv hd hcd).run pinsZ sZ σZ HZ (fun v H1 => v = .ref f ∧ H1 = HZ) IZ ⟨.ref f, hs, rfl, rfl⟩) fun u s1 ⟨v, H1, I1, r1, q1⟩ => ?_
  obtain ⟨ev, eH⟩ := q1
  subst ev
  subst eH
  obtain rfl : u = Value.ref f := r1
  have of1 : s1.heap.get? f = some (PySem.W.kla_obj "<lambda>" (X.env.qual ++ "<lambda>") params body scope (cloFrom X.env.cells scope.names []) pm c' ctv) := I1.base.keep f _ hf hfn hfr (fun z => nomatch (show f ∈ ([] : List Addr) from z))
  refine PySem.W.callWith_F0 ⟨_, _, _, _, of1⟩ ?_
  have un : Un (frs X.stack) [] H H1 s.heap s1.heap := I1.base
  obtain ⟨⟨oc, vs, t, hoc, hdc, hvc⟩, _, _⟩ := I1.hok c' _ hc
  have rc : codeAny (model X.prog X.w) (X.A.deeper (envOfC qg sg s.heap.objs.size g cdg)) (.call (.ref f) ⟨[], []⟩) (CR (L2.CX X.prog X.w) (envOfC qg sg s.heap.objs.size g cdg :: X.stack) X.prog X.w H1 s1 Q (WE W σZ)) s1 := by
    apply PySem.W.kla_callFunE hr.depth of1 rfl L.co L.gen rfl ⟨c', oc, vs, t, rfl, hoc, hdc, hvc⟩
    rw [hbind]
    refine wpAny_pure (wpAny_newFunctionEnv (fun y hy => (L.own y hy).2) (fun y hy => absurd hy (by simp)) (fun h₁ hns hsb => ⟨I1.nolimit.fresh _ hsb, ?_⟩) L.kind)
    show codeAny _ _ (.expr body (lamEnv X scope s1.heap.objs.size f c')) _ _
    have kp : ∀ b o, s1.heap.get? b = some o → h₁.get? b = some o := fun b o e => hsb.extBut b o (Nat.ne_of_lt (Heap.lt_size e)) (Heap.get?_push_of_some _ e)
    have J := lam_start2 (A := X.A.deeper (envOfC qg sg s.heap.objs.size g cdg)) (outer := envOfC qg sg s.heap.objs.size g cdg :: X.stack) (E := WE W σZ) (c' := c') (f := f) (tk := s1.toks + ([] : List (Str × Value)).length) I L I1.env0 hr.hd un hns kp
    refine PySem.W.kla_codeExpr (wpAny_mono ((hbody _ _ s1 H1 _ (hr.deeper _) hgd).run [] _ _ H1 Q J ht) (fun v s' hq => ?_) fun e s' hq => hq)
    obtain ⟨w', H', J', rv, q⟩ := hq
    exact ⟨w', H', J'.os, J'.bare, J'.base, J'.hok, rv, q⟩
  apply wpAny_call
  apply codeAny_mono rc
  intro r s' hq
  cases r with
  | error e => exact passAt tk σZ pinsZ H1 s1 e s' I1 hq
  | ok fl =>
    cases fl with
    | ret u => exact I1.after hq
    | next => exact False.elim hq
    | brk => exact False.elim hq
    | cont => exact False.elim hq
end

/-! ### the def that is handed the lambda -/
/-- what a call came to -/
abbrev Out := Sum Exn D
abbrev WSp := Out → (D → Prop) → Prop
def PostW (K : PySem.W.Frag) (S H : Hp) (Q : VK) : D → Prop := fun r => ∀ v H' S', Same H H' → Same S S' → Same S' H' → (∀ a o, S' a = some o → S a = some o ∨ H a = none) → NTS S' → Rep K S' v r → Q v H'
def TTw (K : PySem.W.Frag) (T : WSp) (tl : XK → Hp → VK → Prop) (H : Hp) (Q : VK) : Prop :=
  tl (fun cls dd H' => ∃ S' x, Same S' H' ∧ NTS S' ∧ ExR K S' H' cls dd x ∧ T (.inl x) (PostW K S' H' Q)) H (fun v H' => ∃ S' z, Same S' H' ∧ NTS S' ∧ Rep K S' v z ∧ T (.inr z) (PostW K S' H' Q))
def MonoL (tl : XK → Hp → VK → Prop) : Prop := ∀ (E E' : XK) (H : Hp) (Q Q' : VK), (∀ c d H, E c d H → E' c d H) → (∀ v H, Q v H → Q' v H) → tl E H Q → tl E' H Q'
def GivesW (P : Program) (w : World) (K : PySem.W.Frag) (mg : Str → Option Value) (base : Heap) (A : Around) (stack : List Env) (Ng : List Str) (x : Str) (sg : Scope) (g : Addr) (cdg : Value) (bg : List Stmt) (a : Str) (T : WSp) : Prop :=
  ∀ (f c' : Addr) (q : Str) (s : Shared) (H : Hp) (Q : VK) (tl : XK → Hp → VK → Prop), Room 2 (A.deeper (envOfC x sg s.heap.objs.size g cdg)) →
    (∀ (W : WX) (pn : List (Addr × Obj)) (xe : Value → Shared → Prop) (p1 p2 : Pos), Takes ((cxOf C8.CX0 P w K mg base Ng x sg g cdg A stack s H C8.E0).tr pn xe) W →
      PE ((cxOf C8.CX0 P w K mg base Ng x sg g cdg A stack s H C8.E0).tr pn xe) (.Call (.Name a p1) [] [] p2) (tAct f c' q W tl)) →
    H c' = some (CodeO c' q) → MonoL tl → TTw K T tl H Q →
    ∃ t, PSs (cxOf C8.CX0 P w K mg base Ng x sg g cdg A stack s H C8.E0).nox bg t ∧ t { nx := fun _ H' => Q .non H', rt := Q } (L2.start Ng [.ref f]) H
/-- a def that calls what it is handed, by its name -/
structure CanW (P : Program) (w : World) (K : PySem.W.Frag) (mg : Str → Option Value) (base : Heap) (x : Str) (T : WSp) : Prop where
  ex : ∃ (g : Addr) (od an : Option Addr) (oc dV kV doc pm cdv ct : Value) (osl : Array (Option Value)) (pg : Arguments) (bg : List Stmt) (sg : Scope) (Ng : List Str) (a : Str), mg x = some (.ref g) ∧ PySem.W.keepIn K (.ref g) = true ∧
    K.lookup g = some ⟨oc, od, .func (PySem.W.fnOf x x pg bg sg dV kV doc pm an cdv ct), osl⟩ ∧ PySem.W.codeIn K cdv x = true ∧ L2.Binds K (PySem.W.fnOf x x pg bg sg dV kV doc pm an cdv ct) [a] [] ∧ FnScope Ng [a] sg ∧ Ng[0]? = some a ∧ Vis sg a ∧
    (a == ("__debug__" : Str)) = false ∧ (a == ("__classdict__" : Str)) = false ∧ ∀ (A : Around) (stack : List Env), GivesW P w K mg base A stack Ng x sg g cdv bg a T

/-- x(lambda: body) -/
def tLamW (K : PySem.W.Frag) (P : Addr) (q : Str) (T : WSp) (t : XK → TE) : TE := fun σ H Q => ∃ S ps, Same S H ∧ H P = some (.tbl ps) ∧ TriplesOk ps.toList ∧ (∀ (pos : Pos) (cv : Value), codeAmong pos ps.toList = some cv → ∃ c, cv = .ref c ∧ S c = some (CodeO c q)) ∧
  ∀ S1 H1, LamH S H S1 H1 P q ps → TTw K T (fun E H' Q' => t E σ H' Q') H1 Q
section
variable {X : Cx}
theorem pe_word {T : WSp} {x : Str} {c P : Addr} {k : Nat} {γ : Bool} {params : Arguments} {body : Expr} {scope : Scope} {t : XK → TE} {p lpos pos : Pos} (C : CanW X.prog X.w X.K X.mg X.base x T) (hg : Gl X x) (TB : TabB X.base X.mg c P) (hcode : X.env.code = .ref c) (hr : Room (k + 2) X.A) (hk : 1 ≤ k) (hgd : GdB γ X.A)
    (L : LamS X.env.scope scope) (hdef : defaultsOf params X.env = ([], []))
    (hbind : ∀ (q : Str) (cl : List (Str × Addr)) (pm cv ctv : Value), bindArgs (PySem.W.kla_fn "<lambda>" q params body scope cl pm cv ctv) ⟨[], []⟩ = pure [])
    (hbody : ∀ (A : Around) (outer : List Env) (s : Shared) (H : Hp) (E : XK) (f c' : Addr), Room k (A.deeper (lamEnv X scope s.heap.objs.size f c')) → GdB γ (A.deeper (lamEnv X scope s.heap.objs.size f c')) → PE (lamCx X A outer s H E scope f c') body (t E))
    (mono : ∀ σ, MonoL fun E H Q => t E σ H Q) (hdb : (x == ("__debug__" : Str)) = false := by decide) : PE X (.Call (.Name x p) [.Lambda params body scope lpos] [] pos) (tLamW X.K P (X.env.qual ++ "<lambda>") T t) := by
  obtain ⟨g, od, an, oc, dV, kV, doc, pm, cdv, ct, osl, pg, bg, sg, Ng, a, hm, hkp, lk, hcg, hb, Sg, hNg, hva, hd, hcd, G⟩ := C.ex
  constructor
  intro pins s σ H Q I h
  obtain ⟨S, ps, sub, hP, ht, hc, h⟩ := h
  apply wpAny_Call_Name_kw
  apply ld_glob I hg hm _ hdb
  refine PySem.W.callWith_K (h₀ := X.base) I.ok.mod.kin hkp ?_ (by rfl) (by rfl)
  show wpAny _ _ (spliced ((false, eval (.Lambda params body scope lpos) X.env) :: backTo pos (starEach [] X.env))) _ _ s
  refine Calls.spliced_cons (lam_mk I TB hcode sub hP ht hc hdef (L.has I.ok) fun f c' pm' ctv S1 H1 s' I1 lh hf hfn hfr hco => ?_)
  refine Calls.spliced_nil ⟨I1.kIn, ?_⟩
  have rc : codeAny (model X.prog X.w) X.A (.call (.ref g) ⟨[.ref f], []⟩) (CR C8.CX0 X.stack X.prog X.w H1 s' Q C8.E0) s' := by
    refine run_ofS (k := k + 1) (N := Ng) (ps := [a]) (us := [.ref f]) (vs := [.ref f]) lk hcg Sg hr I1.env0 (hb s' [.ref f] I1.kIn rfl) (.cons rfl .nil) rfl fun hr' => ?_
    obtain ⟨t', ht', hq'⟩ := G X.A X.stack f c' (X.env.qual ++ "<lambda>") s' H1 Q (fun E H' Q' => t E σ H' Q') (hr'.mono (by omega)) (fun W pn xe p1 p2 tk => pe_act0 I1 L hf hfn hfr (hbind _ _ _ _ _) tk hr' hgd (fun A outer s H E hr2 hg2 => hbody A outer s H E f c' hr2 hg2) hNg hva hd hcd) hco (mono σ) (h S1 H1 lh)
    exact ⟨t', ht'.nox, hq'⟩
  apply wpAny_call
  apply codeAny_mono rc
  intro r s2 hq
  cases r with
  | error e => exact (show False from hq).elim
  | ok fl =>
    cases fl with
    | ret u => exact I1.after hq
    | next => exact False.elim hq
    | brk => exact False.elim hq
    | cont => exact False.elim hq
end
end DL
/-! DL41: the drawing hand and the tables of code objects; defs in their presence -/
namespace DL
open PySem PySem.Spec PyProof.Rows L2 LamX

theorem TabV.up {S S' H H' : Hp} {P : Addr} {q : Str} (t : TabV S H P q) (e : Same S S') (h : H' P = H P) : TabV S' H' P q := by
  obtain ⟨ps, h1, h2, h3⟩ := t
  refine ⟨ps, h.trans h1, h2, fun pos cv hc => ?_⟩
  obtain ⟨c, e1, e2⟩ := h3 pos cv hc
  exact ⟨c, e1, e _ _ e2⟩
/-- a list that is changed by what it is handed to, and the tables Tb -/
def tres (K : PySem.W.Frag) (inv : List D → Prop) (Tb : List (Addr × Str)) (p : Addr) : Res where
  p := p
  fp := p :: Tb.map (·.1)
  ok := fun S H => (lres K inv p).ok S H ∧ ∀ t ∈ Tb, TabV S H t.1 t.2
  st := fun {S S' H H'} e h ⟨a, b⟩ => ⟨(lres K inv p).st e (fun u hu => h u (by rw [List.mem_singleton.mp (show u ∈ [p] from hu)]; exact List.mem_cons_self)) a, fun t ht => (b t ht).up e (h t.1 (List.mem_cons_of_mem _ (List.mem_map.mpr ⟨t, ht, rfl⟩)))⟩
  there := fun S H ⟨a, b⟩ u hu => by
    rcases List.mem_cons.mp hu with e | e
    · exact (lres K inv p).there S H a u (by rw [e]; exact List.mem_singleton.mpr rfl)
    · obtain ⟨t, ht, e2⟩ := List.mem_map.mp e
      obtain ⟨ps, h1, _⟩ := b t ht
      exact ⟨_, by rw [← e2]; exact h1⟩
def tRK (K : PySem.W.Frag) (inv : List D → Prop) (Tb : List (Addr × Str)) : Res → Prop := fun r => ∃ p, r = tres K inv Tb p
abbrev RKt (K : PySem.W.Frag) (Tb : List (Addr × Str)) : Res → Prop := tRK K hInv Tb
theorem tres_ne {K : PySem.W.Frag} {inv : List D → Prop} {Tb : List (Addr × Str)} {p : Addr} {S H : Hp} (h : (tres K inv Tb p).ok S H) {t : Addr × Str} (ht : t ∈ Tb) : t.1 ≠ p := fun e => by
  obtain ⟨⟨xs, hs, h1, _⟩, b⟩ := h
  obtain ⟨ps, h2, _⟩ := b t ht
  rw [e, h1] at h2
  cases h2

/-- what stands behind a call of a def in the presence of the resource -/
def spQ (K : PySem.W.Frag) (RK : Res → Prop) (T : TSp) : Sp := fun vs H Q E => ∃ (r : Res) (S : Hp) (ds : List D), RK r ∧ r.ok S H ∧ Same S H ∧ NTS S ∧ (∀ a ∈ r.fp, S a = none) ∧ Reps K S vs ds ∧
  T ds (fun x => ∀ v H' S', (∀ a o, a ∉ r.fp → H a = some o → H' a = some o) → r.ok S' H' → Same S S' → Same S' H' → (∀ a o, S' a = some o → S a = some o ∨ H a = none) → NTS S' → Rep K S' v x → Q v H')
    (fun x => ∀ cls dd H' S', (∀ a o, a ∉ r.fp → H a = some o → H' a = some o) → r.ok S' H' → Same S S' → Same S' H' → (∀ a o, S' a = some o → S a = some o ∨ H a = none) → NTS S' → ExR K S' H' cls dd x → E cls dd H')

section
variable {P : Program} {w : World} {K : PySem.W.Frag} {mg : Str → Option Value} {base : Heap} {k : Nat} {x : Str} {ps : List Str} {T : TSp} {γ : Bool} {inv : List D → Prop} {Tb : List (Addr × Str)}
/-- what changes the list leaves the tables -/
theorem Can.tab {p0 : Str} (c : Can γ P w K mg base k x (p0 :: ps) (spR K (lRK K inv) T)) (mono : MonoT T) : Can γ P w K mg base k x (p0 :: ps) (spR K (tRK K inv Tb) T) := by
  obtain ⟨f, fd, h1, h2, h3, F⟩ := c.ex
  refine ⟨f, fd, h1, h2, h3, F.imp ?_⟩
  rintro vs H Q E ⟨r, vs', S, ds, ⟨p, rfl⟩, ok, rfl, sub, nt, fpS, rp, t⟩
  have ok0 := ok
  obtain ⟨ok1, ok2⟩ := ok
  have back : ∀ {H' S'}, (∀ a o, a ∉ (lres K inv p).fp → H a = some o → H' a = some o) → (lres K inv p).ok S' H' → Same S S' → (∀ a o, a ∉ (tres K inv Tb p).fp → H a = some o → H' a = some o) ∧ (tres K inv Tb p).ok S' H' := fun {H' S'} a b c =>
    ⟨fun u o hu e => a u o (fun z => hu (by rw [List.mem_singleton.mp (show u ∈ [p] from z)]; exact List.mem_cons_self)) e, b, fun t ht => (ok2 t ht).up c (by
      obtain ⟨ps, e, _⟩ := ok2 t ht
      rw [e]
      exact a _ _ (fun z => tres_ne ok0 ht (List.mem_singleton.mp (show t.1 ∈ [p] from z))) e)⟩
  refine ⟨lres K inv p, vs', S, ds, ⟨p, rfl⟩, ok1, rfl, sub, nt, fun a ha => fpS a (by rw [List.mem_singleton.mp (show a ∈ [p] from ha)]; exact List.mem_cons_self), rp, mono _ _ _ _ _ (fun z q v H' S' a b c d e f g => ?_) (fun z q cls dd H' S' a b c d e f g => ?_) t⟩
  · obtain ⟨a2, b2⟩ := back a b c
    exact q v H' S' a2 b2 c d e f g
  · obtain ⟨a2, b2⟩ := back a b c
    exact q cls dd H' S' a2 b2 c d e f g
end

section
variable {P : Program} {w : World} {K : PySem.W.Frag} {mg : Str → Option Value} {base : Heap} {x qual : Str} {st : Stmt} {f : Addr} {fd : FuncData} {N ps : List Str} {k : Nat} {T : TSp} {d : DS} {γ : Bool}
/-- THE RULE for a def in the presence of the resource -/
theorem def_q {RK : Res → Prop} (F : Fun K x qual st f fd) (Sc : FnScope N ps (defScope st)) (hlen : ∀ ds R E, T ds R E → ds.length = ps.length)
    (hd : ∀ (cdv : Value) (A : Around) (outer : List Env) (s : Shared) (H : Hp) (E : XK), Room k (A.deeper (envOfC qual (defScope st) s.heap.objs.size f cdv)) → GdB γ (A.deeper (envOfC qual (defScope st) s.heap.objs.size f cdv)) → fd.code = cdv →
      DSs (cxOf (L2.CX P w) P w K mg base N qual (defScope st) f cdv A outer s H E) RK (fun cls dd _ H' => E cls dd H') (defBody st) d)
    (hq : ∀ ds R E, T ds R E → d (fun x _ => E x) { nx := fun _ => R .non, rt := fun x _ => R x } (rho0 N.length ds)) : FnG γ P w K mg base (k + 1) f fd ps (spQ K RK T) := by
  obtain ⟨oc, od, kV, doc, pm, an, cdv, ct, osl, rfl, lk, hcd⟩ := F.ex
  have len : ∀ vs H Q E, spQ K RK T vs H Q E → vs.length = ps.length := by
    rintro vs H Q E ⟨r, S, ds, _, _, _, _, _, rp, t⟩
    rw [rp.length]; exact hlen _ _ _ t
  apply fnG_of lk hcd Sc len
  intro A outer s H vs Q E hr hg hs
  have hvl := len vs H Q E hs
  have hpl : ps.length ≤ N.length := by have := congrArg List.length Sc.pre; rw [List.length_take] at this; omega
  refine ⟨_, hd cdv A outer s H E hr hg rfl, ?_⟩
  obtain ⟨r, S, ds, rk, ok, sub, ntS, fpS, rp, t⟩ := hs
  have hdl : ds.length = ps.length := hlen _ _ _ t
  have R0 : ER K RK ⟨H, S, r⟩ S H (L2.start N vs) (rho0 N.length ds) := by
    refine ⟨rk, ok, sub, fun a o _ e => e, fun a o e => .inl e, Same.refl S, fpS, ok, ?_, fun i c e => rho0_cell rp e fun h => start_get h, fun i j p q h => absurd h (by rw [own_rho0]; simp), ntS⟩
    rw [start_len (by omega)]
    unfold rho0
    rw [List.length_append, List.length_map, List.length_replicate]; omega
  refine ⟨_, S, _, _, _, R0, hq ds _ _ t, ?_, ?_, fun _ _ _ _ _ _ z => z.elim, fun _ _ _ _ _ _ z => z.elim, ?_⟩
  · intro σ' H' S' ρ' R e q
    exact q .non H' S' R.fr R.res e R.sub R.vis R.nt .non
  · intro v σ' H' S' ρ' y R e ry q
    exact q v H' S' R.fr R.res e R.sub R.vis R.nt ry
  · intro cls dd σ' H' S' ρ' y R e ry q
    exact q cls dd H' S' R.fr R.res e R.sub R.vis R.nt ry
/-- .. that changes the resource, its first argument; its code object is told -/
theorem def_rc {RK : Res → Prop} {p0 : Str} (F : Fun K x qual st f fd) (Sc : FnScope N (p0 :: ps) (defScope st)) (hlen : ∀ ds R E, T ds R E → ds.length = ps.length)
    (hd : ∀ (cdv : Value) (A : Around) (outer : List Env) (s : Shared) (H : Hp) (E : XK), Room k (A.deeper (envOfC qual (defScope st) s.heap.objs.size f cdv)) → GdB γ (A.deeper (envOfC qual (defScope st) s.heap.objs.size f cdv)) → fd.code = cdv →
      DSs (cxOf (L2.CX P w) P w K mg base N qual (defScope st) f cdv A outer s H E) RK (fun cls dd _ H' => E cls dd H') (defBody st) d)
    (hq : ∀ ds R E, T ds R E → d (fun x _ => E x) { nx := fun _ => R .non, rt := fun x _ => R x } (rhoR N.length ds)) : FnG γ P w K mg base (k + 1) f fd (p0 :: ps) (spR K RK T) := by
  obtain ⟨oc, od, kV, doc, pm, an, cdv, ct, osl, rfl, lk, hcd⟩ := F.ex
  have len : ∀ vs H Q E, spR K RK T vs H Q E → vs.length = (p0 :: ps).length := by
    rintro vs H Q E ⟨r, vs', S, ds, _, _, rfl, _, _, _, rp, t⟩
    rw [List.length_cons, List.length_cons, rp.length, hlen _ _ _ t]
  apply fnG_of lk hcd Sc len
  intro A outer s H vs Q E hr hg hs
  have hvl := len vs H Q E hs
  have hpl : (p0 :: ps).length ≤ N.length := by have := congrArg List.length Sc.pre; rw [List.length_take] at this; omega
  refine ⟨_, hd cdv A outer s H E hr hg rfl, ?_⟩
  obtain ⟨r, vs', S, ds, rk, ok, rfl, sub, ntS, fpS, rp, t⟩ := hs
  have hdl : ds.length = ps.length := hlen _ _ _ t
  have hne : ∀ (i : Nat) c, (rhoR N.length ds)[i]? = some c → CellOk K ⟨H, S, r⟩ S H (L2.start N (V.ref r.p :: vs'))[i]? c := by
    intro i c e
    cases i with
    | zero =>
      have e' : Cell.res = c := Option.some.inj e
      subst e'
      rw [start_get (by simp)]
      rfl
    | succ i =>
      have e' : (rho0 (N.length - 1) ds)[i]? = some c := e
      refine rho0_cell rp e' fun h => ?_
      rw [start_get (by simpa using h)]
      rfl
  have hown : ∀ i : Nat, ownAt (rhoR N.length ds) i = none := by
    intro i
    cases i with
    | zero => rfl
    | succ i => exact own_rho0 (n := N.length - 1) (i := i) (ds := ds)
  rw [List.length_cons] at hpl
  have R0 : ER K RK ⟨H, S, r⟩ S H (L2.start N (V.ref r.p :: vs')) (rhoR N.length ds) := by
    refine ⟨rk, ok, sub, fun a o _ e => e, fun a o e => .inl e, Same.refl S, fpS, ok, ?_, hne, fun i j p q h => absurd h (by rw [hown]; simp), ntS⟩
    rw [start_len (by rw [List.length_cons, rp.length]; omega)]
    unfold rhoR rho0
    rw [List.length_cons, List.length_append, List.length_map, List.length_replicate]; omega
  refine ⟨_, S, _, _, _, R0, hq ds _ _ t, ?_, ?_, fun _ _ _ _ _ _ z => z.elim, fun _ _ _ _ _ _ z => z.elim, ?_⟩
  · intro σ' H' S' ρ' R e q
    exact q .non H' S' R.fr R.res e R.sub R.vis R.nt .non
  · intro v σ' H' S' ρ' y R e ry q
    exact q v H' S' R.fr R.res e R.sub R.vis R.nt ry
  · intro cls dd σ' H' S' ρ' y R e ry q
    exact q cls dd H' S' R.fr R.res e R.sub R.vis R.nt ry
end
/-- the def x stands with the code object c, whose table is P -/
structure TabOf (K : PySem.W.Frag) (base : Heap) (mg : Str → Option Value) (x : Str) (P : Addr) : Prop where
  ex : ∃ c : Addr, TabB base mg c P ∧ ∀ (f : Addr) (fd : FuncData) (st : Stmt), mg x = some (.ref f) → Fun K x x st f fd → fd.code = .ref c
section
variable {P : Program} {w : World} {K : PySem.W.Frag} {mg : Str → Option Value} {base : Heap} {x : Str} {st : Stmt} {N ps : List Str} {k : Nat} {T : TSp} {d : DS} {γ : Bool} {Pt : Addr}
theorem can_q {RK : Res → Prop} (F : Has K mg x st ps) (Sc : FnScope N ps (defScope st)) (hlen : ∀ ds R E, T ds R E → ds.length = ps.length)
    (hd : ∀ (f : Addr) (cdv : Value) (A : Around) (outer : List Env) (s : Shared) (H : Hp) (E : XK), Room k (A.deeper (envOfC x (defScope st) s.heap.objs.size f cdv)) → GdB γ (A.deeper (envOfC x (defScope st) s.heap.objs.size f cdv)) →
      DSs (cxOf (L2.CX P w) P w K mg base N x (defScope st) f cdv A outer s H E) RK (fun cls dd _ H' => E cls dd H') (defBody st) d)
    (hq : ∀ ds R E, T ds R E → d (fun x _ => E x) { nx := fun _ => R .non, rt := fun x _ => R x } (rho0 N.length ds)) : Can γ P w K mg base (k + 1) x ps (spQ K RK T) := by
  obtain ⟨f, fd, h1, h2, h3, h4⟩ := F.ex
  exact ⟨f, fd, h1, h2, h3, def_q h4 Sc hlen (fun cdv A outer s H E a b _ => hd f cdv A outer s H E a b) hq⟩
/-- .. that makes lambdas -/
theorem can_ql {RK : Res → Prop} (F : Has K mg x st ps) (TO : TabOf K base mg x Pt) (Sc : FnScope N ps (defScope st)) (hlen : ∀ ds R E, T ds R E → ds.length = ps.length)
    (hd : ∀ (f c : Addr) (A : Around) (outer : List Env) (s : Shared) (H : Hp) (E : XK), TabB base mg c Pt → Room k (A.deeper (envOfC x (defScope st) s.heap.objs.size f (.ref c))) → GdB γ (A.deeper (envOfC x (defScope st) s.heap.objs.size f (.ref c))) →
      DSs (cxOf (L2.CX P w) P w K mg base N x (defScope st) f (.ref c) A outer s H E) RK (fun cls dd _ H' => E cls dd H') (defBody st) d)
    (hq : ∀ ds R E, T ds R E → d (fun x _ => E x) { nx := fun _ => R .non, rt := fun x _ => R x } (rho0 N.length ds)) : Can γ P w K mg base (k + 1) x ps (spQ K RK T) := by
  obtain ⟨f, fd, h1, h2, h3, h4⟩ := F.ex
  obtain ⟨c, tb, hc⟩ := TO.ex
  have e := hc f fd st h1 h4
  exact ⟨f, fd, h1, h2, h3, def_q h4 Sc hlen (fun cdv A outer s H E a b q => by
    have e2 : cdv = .ref c := q.symm.trans e
    subst e2
    exact hd f c A outer s H E tb a b) hq⟩
theorem can_rl {RK : Res → Prop} {p0 : Str} (F : Has K mg x st (p0 :: ps)) (TO : TabOf K base mg x Pt) (Sc : FnScope N (p0 :: ps) (defScope st)) (hlen : ∀ ds R E, T ds R E → ds.length = ps.length)
    (hd : ∀ (f c : Addr) (A : Around) (outer : List Env) (s : Shared) (H : Hp) (E : XK), TabB base mg c Pt → Room k (A.deeper (envOfC x (defScope st) s.heap.objs.size f (.ref c))) → GdB γ (A.deeper (envOfC x (defScope st) s.heap.objs.size f (.ref c))) →
      DSs (cxOf (L2.CX P w) P w K mg base N x (defScope st) f (.ref c) A outer s H E) RK (fun cls dd _ H' => E cls dd H') (defBody st) d)
    (hq : ∀ ds R E, T ds R E → d (fun x _ => E x) { nx := fun _ => R .non, rt := fun x _ => R x } (rhoR N.length ds)) : Can γ P w K mg base (k + 1) x (p0 :: ps) (spR K RK T) := by
  obtain ⟨f, fd, h1, h2, h3, h4⟩ := F.ex
  obtain ⟨c, tb, hc⟩ := TO.ex
  have e := hc f fd st h1 h4
  exact ⟨f, fd, h1, h2, h3, def_rc h4 Sc hlen (fun cdv A outer s H E a b q => by
    have e2 : cdv = .ref c := q.symm.trans e
    subst e2
    exact hd f c A outer s H E tb a b) hq⟩
end

/-! ### calls in the presence of the resource -/
section
variable {X : Cx} {RK : Res → Prop} {W : WX} {k j : Nat} {f : Addr} {fd : FuncData} {ps : List Str} {T : TSp} {x y : Str} {p p2 pos : Pos} {e : Expr} {es : List Expr} {r : DA} {γ : Bool}
theorem call_q {g : G} {S H1 : Hp} {σ : L2.St} {ρ1 : Rho} {vs : List V} {xs : List D} {Q : D → Rho → Prop} {E : EK} {Qh : VK} (R1 : ER X.K RK g S H1 σ ρ1) (r1 : Reps X.K S vs xs) (q1 : T xs (fun v => Q v ρ1) (fun x => E x ρ1))
    (hq : ∀ v H' S' ρ' z, ER X.K RK g S' H' σ ρ' → Same S S' → Rep X.K S' v z → Q z ρ' → Qh v H') (hx : ExC X.K RK W g S E) (mono : MonoT T) : spQ X.K RK T vs H1 Qh (WE W σ) := by
  have z := call_r R1 r1 q1 hq hx mono
  obtain ⟨r, vs', S', ds, a, b, c, d⟩ := z
  obtain ⟨c1, c2⟩ := List.cons.inj c
  subst c2
  exact ⟨r, S', ds, a, b, d⟩
theorem de_cQ (c : Can γ X.prog X.w X.K X.mg X.base k x ps (spQ X.K RK T)) (mono : MonoT T) (hr : Room j X.A) (hk : k ≤ j) (hgd : GdB γ X.A) (hg : Gl X x) (tk : Takes X W) (ha : DAs X RK W (e :: es) r) (hdb : (x == ("__debug__" : Str)) = false := by decide)
    (he : starEach (e :: es) X.env = (false, eval e X.env) :: starEach es X.env := by rfl) (hpl : (backTo pos (starEach es X.env)).any (·.1) = false := by rfl) : DE X RK W (.Call (.Name x p) (e :: es) [] pos) (dCall T r) := by
  obtain ⟨f, fd, h1, h2, h3, F⟩ := c.ex
  refine pe_weak (pe_callG F (hr.mono hk) hgd hg h1 h2 h3 .nil tk ha hdb he hpl) ?_
  rintro σ H Qh ⟨g, S, ρ, Q, E, R, h, hq, hx⟩
  refine ⟨g, S, ρ, _, E, R, h, fun vs H1 S1 ρ1 xs R1 e1 r1 q1 => ?_, hx⟩
  show spQ X.K RK T (vs ++ []) H1 Qh (WE W σ)
  rw [List.append_nil]
  exact call_q R1 r1 q1 (fun v H' S' ρ' z R' e' r' q' => hq v H' S' ρ' z R' (e1.trans e') r' q') (hx.up e1) mono
theorem de_cQ0 (c : Can γ X.prog X.w X.K X.mg X.base k x ps (spQ X.K RK T)) (mono : MonoT T) (hr : Room j X.A) (hk : k ≤ j) (hgd : GdB γ X.A) (hg : Gl X x) (tk : Takes X W) (hdb : (x == ("__debug__" : Str)) = false := by decide) : DE X RK W (.Call (.Name x p) [] [] pos) (dCall T dANil) := by
  obtain ⟨f, fd, h1, h2, h3, F⟩ := c.ex
  refine pe_weak (pe_callG0 F (hr.mono hk) hgd hg h1 h2 h3 .nil tk hdb) ?_
  rintro σ H Qh ⟨g, S, ρ, Q, E, R, h, hq, hx⟩
  exact call_q R .nil h hq hx mono
end

/-! ### x(lambda: body) -/
/-- .. what the lambda comes to is told to the def T -/
@[simp] def dWord (T : WSp) (d : DT) : DT := fun E ρ Q => d (fun x ρ' => ρ' = ρ ∧ T (.inl x) fun r => Q r ρ) ρ (fun z ρ' => T (.inr z) fun r => Q r ρ')
def MonoW (T : WSp) : Prop := ∀ o R R', (∀ v, R v → R' v) → T o R → T o R'
section
variable {X : Cx} {W : WX} {inv : List D → Prop} {Tb : List (Addr × Str)}
theorem er_lam {K : PySem.W.Frag} {g : G} {S H S1 H1 : Hp} {σ : L2.St} {ρ : Rho} {P : Addr} {q : Str} {ps : Array Value} (R : ER K (tRK K inv Tb) g S H σ ρ) (hm : (P, q) ∈ Tb) (hu : ∀ t ∈ Tb, t.1 = P → t.2 = q) (hP : H P = some (.tbl ps))
    (hc : ∀ (pos : Pos) (cv : Value), codeAmong pos ps.toList = some cv → ∃ c, cv = .ref c ∧ S c = some (CodeO c q)) (l : LamH S H S1 H1 P q ps) : ER K (tRK K inv Tb) g S1 H1 σ ρ ∧ Same S S1 := by
  rcases l with ⟨rfl, rfl⟩ | ⟨c, ps', nc, rfl, rfl, ht, hl⟩
  · exact ⟨R, Same.refl _⟩
  have hPf : P ∈ g.r.fp := by
    obtain ⟨p, e⟩ := R.rk
    rw [e]
    exact List.mem_cons_of_mem _ (List.mem_map.mpr ⟨(P, q), hm, rfl⟩)
  obtain ⟨h1, h2, h3, h4⟩ := R.fresh nc
  have e : Same S (upd S c (CodeO c q)) := same_upd h2
  have cP : P ≠ c := fun z => h3 (z ▸ hPf)
  have keep : ∀ a o, a ≠ P → H a = some o → upd (upd H P (.tbl ps')) c (CodeO c q) a = some o := fun a o ha q => by
    rw [upd_ne (ne_of_none q nc), upd_ne ha]; exact q
  have res1 := R.res
  have res2 : g.r.ok (upd S c (CodeO c q)) (upd (upd H P (.tbl ps')) c (CodeO c q)) := by
    obtain ⟨p, ep⟩ := R.rk
    rw [ep] at res1 ⊢
    have nP : P ≠ p := tres_ne res1 hm
    obtain ⟨⟨xs, hs, a1, a2, a3⟩, b⟩ := res1
    refine ⟨⟨xs, hs, keep _ _ (Ne.symm nP) a1, a2.up e, a3⟩, fun t ht2 => ?_⟩
    by_cases et : t.1 = P
    · rw [hu t ht2 et, et]
      refine ⟨ps', by rw [upd_ne cP, upd_same], ht, fun pos cv hcv => ?_⟩
      rcases hl pos cv hcv with z | z
      · obtain ⟨c2, e1, e2⟩ := hc pos cv z
        exact ⟨c2, e1, e _ _ e2⟩
      · exact ⟨c, z, upd_same⟩
    · obtain ⟨ps2, b1, b2, b3⟩ := b t ht2
      refine ⟨ps2, keep _ _ et b1, b2, fun pos cv hcv => ?_⟩
      obtain ⟨c2, e1, e2⟩ := b3 pos cv hcv
      exact ⟨c2, e1, e _ _ e2⟩
  refine ⟨R.step e (fun a o q => ?_) (fun a o ha q => keep a o (fun z => ha (z ▸ hPf)) (R.fr a o ha q)) (fun a o q => ?_) (fun a ha => ?_) res2 (fun i p hp => ?_) (R.nt.upd codeO_nt), e⟩
  · by_cases hb : a = c
    · subst hb; rw [upd_same] at q ⊢; exact q
    · rw [upd_ne hb] at q
      exact keep a o (fun z => by rw [z, R.fpS P hPf] at q; cases q) (R.sub a o q)
  · by_cases hb : a = c
    · subst hb; exact .inr h1
    · rw [upd_ne hb] at q; exact .inl q
  · rw [upd_ne (show a ≠ c from fun z => h3 (z ▸ ha))]; exact R.fpS a ha
  · have n1 : p ≠ c := fun z => h4 i (z ▸ hp)
    have n2 : p ≠ P := fun z => by
      have w := (R.ownS hp).2
      obtain ⟨o, eo⟩ := g.r.there _ _ R.heok P hPf
      rw [z, eo] at w; cases w
    exact ⟨by rw [upd_ne n1, upd_ne n2], by rw [upd_ne n1]; exact (R.ownS hp).1⟩
/-- the same cells at other slots, back at the slots of before -/
theorem er_back {K : PySem.W.Frag} {RK : Res → Prop} {g : G} {S H S' H' : Hp} {σ σ' : L2.St} {ρ : Rho} (R : ER K RK g S H σ ρ) (R' : ER K RK g S' H' σ' ρ) (e : Same S S') : ER K RK g S' H' σ ρ := by
  refine ⟨R'.rk, R'.heok, R'.sub, R'.fr, R'.vis, R'.s0, R'.fpS, R'.res, R.len, fun i c q => ?_, R'.apart, R'.nt⟩
  have z := R.cell i c q
  have z' := R'.cell i c q
  cases c with
  | un => trivial
  | res => exact z
  | dat d => obtain ⟨v, h1, h2⟩ := z; exact ⟨v, h1, h2.up e⟩
  | own p ds => exact ⟨z.1, z'.2⟩
  | ownK p ds => exact ⟨z.1, z'.2⟩
/-- behind the def that was handed the lambda -/
theorem er_post {K : PySem.W.Frag} {RK : Res → Prop} {g : G} {S H S' H' : Hp} {σ : L2.St} {ρ : Rho} (R : ER K RK g S H σ ρ) (s1 : Same H H') (s2 : Same S S') (s3 : Same S' H') (v : ∀ a o, S' a = some o → S a = some o ∨ H a = none) (n : NTS S') : ER K RK g S' H' σ ρ :=
  R.step s2 s3 (fun a o ha q => s1 a o (R.fr a o ha q)) (fun a o q => (v a o q).elim .inl fun z => .inr (R.fresh z).1) (fun a ha => by
    cases q : S' a with
    | none => rfl
    | some o =>
      rcases v a o q with z | z
      · have := R.fpS a ha; rw [z] at this; cases this
      · obtain ⟨o', e'⟩ := g.r.there _ H R.res a ha
        rw [z] at e'; cases e') (g.r.st s2 (fun a ha => by
      obtain ⟨o', e'⟩ := g.r.there _ H R.res a ha
      rw [e', s1 a o' e']) R.res) (fun i q hq => by
      have hS := R.ownS hq
      have hH : ∃ o, H q = some o := by
        cases w : H q with
        | some o => exact ⟨o, rfl⟩
        | none => exact absurd hq ((R.fresh w).2.2.2 i)
      obtain ⟨o, ho⟩ := hH
      refine ⟨by rw [ho, s1 q o ho], ?_⟩
      cases w : S' q with
      | none => rfl
      | some u =>
        rcases v q u w with z | z
        · rw [hS.1] at z; cases z
        · rw [ho] at z; cases z) n
theorem de_word {T : WSp} {x : Str} {c P : Addr} {k : Nat} {γ : Bool} {params : Arguments} {body : Expr} {scope : Scope} {d : DT} {p lpos pos : Pos} (C : CanW X.prog X.w X.K X.mg X.base x T) (mT : MonoW T) (TB : TabB X.base X.mg c P) (hm : (P, X.env.qual ++ "<lambda>") ∈ Tb) (hu : ∀ t ∈ Tb, t.1 = P → t.2 = X.env.qual ++ "<lambda>")
    (hr : Room (k + 2) X.A) (hk : 1 ≤ k) (hgd : GdB γ X.A) (L : LamS X.env.scope scope)
    (hbody : ∀ (A : Around) (outer : List Env) (s : Shared) (H : Hp) (E : XK) (f c' : Addr), Room k (A.deeper (lamEnv X scope s.heap.objs.size f c')) → GdB γ (A.deeper (lamEnv X scope s.heap.objs.size f c')) →
      DE (lamCx X A outer s H E scope f c') (tRK X.K inv Tb) (fun cls dd _ H' => E cls dd H') body d) (hg : Gl X x := by rfl) (hcode : X.env.code = .ref c := by rfl) (hdef : defaultsOf params X.env = ([], []) := by rfl)
    (hbind : ∀ (q : Str) (cl : List (Str × Addr)) (pm cv ctv : Value), bindArgs (PySem.W.kla_fn "<lambda>" q params body scope cl pm cv ctv) ⟨[], []⟩ = pure [] := by intros; rfl)
    (hdb : (x == ("__debug__" : Str)) = false := by decide) : DE X (tRK X.K inv Tb) W (.Call (.Name x p) [.Lambda params body scope lpos] [] pos) (dWord T d) := by
  refine pe_weak (pe_word (t := fun E => liftE X.K (tRK X.K inv Tb) (fun cls dd _ H' => E cls dd H') d) C hg TB hcode hr hk hgd L hdef hbind (fun A outer s H E f c' a b => hbody A outer s H E f c' a b) (fun σ E E' H Q Q' he hq h => ?_) hdb) ?_
  · obtain ⟨g, S, ρ, Q0, E0, R, h1, h2, h3⟩ := h
    exact ⟨g, S, ρ, Q0, E0, R, h1, fun v H' S' ρ' x R' e r q => hq _ _ (h2 v H' S' ρ' x R' e r q), fun cls dd σ' H' S' ρ' x R' e r q => he _ _ _ (h3 cls dd σ' H' S' ρ' x R' e r q)⟩
  · rintro σ H Qh ⟨g, S, ρ, Q, E, R, h, hq, hx⟩
    have ok := R.res
    obtain ⟨p0, ep⟩ := R.rk
    rw [ep] at ok
    obtain ⟨ps, hP, ht, hc⟩ := ok.2 _ hm
    refine ⟨S, ps, R.sub, hP, ht, hc, fun S1 H1 l => ?_⟩
    obtain ⟨R1, e1⟩ := er_lam R hm hu hP hc l
    refine ⟨g, S1, ρ, _, _, R1, h, fun v H' S' ρ' z R' e' r' q' => ⟨S', z, R'.sub, R'.nt, r', mT _ _ _ (fun y q v2 H2 S2 a1 a2 a3 a4 a5 a6 => ?_) q'⟩, fun cls dd σ' H' S' ρ' z R' e' r' q' => ?_⟩
    · exact hq v2 H2 S2 ρ' y (er_post R' a1 a2 a3 a4 a5) ((e1.trans e').trans a2) a6 q
    · obtain ⟨rfl, q'⟩ := q'
      refine ⟨S', z, R'.sub, R'.nt, r', mT _ _ _ (fun y q v2 H2 S2 a1 a2 a3 a4 a5 a6 => ?_) q'⟩
      exact hq v2 H2 S2 ρ' y (er_post (er_back R1 R' e') a1 a2 a3 a4 a5) ((e1.trans e').trans a2) a6 q
end
end DL
/-! DL42: the defs that call what they are handed and say what was raised -/
namespace DL
open PySem PySem.Spec PyProof.Rows L2 LamX

theorem ER.unset {K : PySem.W.Frag} {RK : Res → Prop} {g : G} {S H : Hp} {σ : L2.St} {ρ : Rho} (R : ER K RK g S H σ ρ) (i : Nat) : ER K RK g S H (σ.set i none) (ρ.set i .un) := by
  have R1 := R.forget i
  refine ⟨R1.rk, R1.heok, R1.sub, R1.fr, R1.vis, R1.s0, R1.fpS, R1.res, by simp [R.len], fun j c q => ?_, R1.apart, R1.nt⟩
  by_cases e : j = i
  · subst e
    by_cases h : j < ρ.length
    · rw [List.getElem?_set_self h] at q; cases q; trivial
    · rw [List.getElem?_eq_none (by simpa using h)] at q; cases q
  · rw [List.getElem?_set_ne (Ne.symm e)]
    exact R1.cell j c q
theorem er_start {K : PySem.W.Frag} {Ng : List Str} {S H : Hp} {f : Addr} (sub : Same S H) (nt : NTS S) (hN : 1 ≤ Ng.length) : ER K (fun _ => True) ⟨H, S, noRes⟩ S H (L2.start Ng [.ref f]) (rho0 Ng.length [.raw (.ref f)]) := by
  refine ⟨trivial, trivial, sub, fun a o _ e => e, fun a o e => .inl e, Same.refl S, fun a ha => (by cases ha), trivial, ?_, fun i c e => rho0_cell (.cons (.raw _) .nil) e fun h => start_get h, fun i j p q h => absurd h (by rw [own_rho0]; simp), nt⟩
  rw [start_len (by rw [List.length_singleton]; omega)]
  unfold rho0
  rw [List.length_append, List.length_map, List.length_replicate, List.length_singleton]; omega
theorem er_postW {K : PySem.W.Frag} {S H S' H' : Hp} {σ : L2.St} {ρ : Rho} {Q : VK} {v : V} {z : D} (R : ER K (fun _ => True) ⟨H, S, noRes⟩ S' H' σ ρ) (r : Rep K S' v z) (h : PostW K S H Q z) : Q v H' :=
  h v H' S' (fun a o e => R.fr a o (by intro z; cases z) e) R.s0 R.sub R.vis R.nt r

/-- found = c0; try: call(); except B as e: suite; return found -/
def dWordA (iy ie n : Nat) (c0 : Str) (xs : List Str) (dsu : Addr → Str → DS) : WSp := fun o R => match o with
  | .inr _ => R (.str c0)
  | .inl x => x.2 = [] ∧ x.1 ∈ xs ∧ ∀ a f, dsu a x.1 (fun _ _ => False) { nx := fun ρ => dVar iy (fun _ _ => False) (ρ.set ie .un) (fun z _ => R z), rt := fun z _ => R z } (((rho0 n [.raw (.ref f)]).set iy (.dat (.str c0))).set ie (.dat (.raw (.ref a))))
/-- try: call(); except B as e: suite; return c0 -/
def dWordB (ie n : Nat) (c0 : Str) (xs : List Str) (dsu : Addr → Str → DS) : WSp := fun o R => match o with
  | .inr _ => R (.str c0)
  | .inl x => x.2 = [] ∧ x.1 ∈ xs ∧ ∀ a f, dsu a x.1 (fun _ _ => False) { nx := fun _ => R (.str c0), rt := fun z _ => R z } ((rho0 n [.raw (.ref f)]).set ie (.dat (.raw (.ref a))))
section
variable {P : Program} {w : World} {K : PySem.W.Frag} {mg : Str → Option Value} {base : Heap} {x B a y e c0 : Str} {xs Ng : List Str} {sg : Scope} {T : WSp} {st : Stmt} {b₀ : Stmt} {suite : List Stmt} {dsu : Addr → Str → DS}
theorem can_w (F : Has K mg x st [a]) (Sc : FnScope Ng [a] (defScope st)) (hN0 : Ng[0]? = some a) (hv : Vis (defScope st) a) (h1 : (a == ("__debug__" : Str)) = false) (h2 : (a == ("__classdict__" : Str)) = false)
    (G : ∀ (g : Addr) (cdv : Value) (A : Around) (stack : List Env), GivesW P w K mg base A stack Ng x (defScope st) g cdv (defBody st) a T) : CanW P w K mg base x T := by
  obtain ⟨f, fd, e1, e2, e3, e4⟩ := F.ex
  obtain ⟨oc, od, kV, doc, pm, an, cdv, ct, osl, rfl, lk, hcd⟩ := e4.ex
  exact ⟨f, od, an, oc, _, kV, doc, pm, cdv, ct, osl, _, _, _, Ng, a, e1, e2, lk, hcd, e3, Sc, hN0, hv, h1, h2, fun A stack => G f cdv A stack⟩
/-- what the suite must be -/
def SuiteOk (P : Program) (w : World) (K : PySem.W.Frag) (mg : Str → Option Value) (base : Heap) (Ng : List Str) (x : Str) (sg : Scope) (xs : List Str) (suite : List Stmt) (dsu : Addr → Str → DS) : Prop :=
  ∀ (g : Addr) (cdv : Value) (A : Around) (stack : List Env) (s : Shared) (H : Hp), Room 2 (A.deeper (envOfC x sg s.heap.objs.size g cdv)) → ∀ z ∈ xs, ∀ (a D : Addr) (oe : Obj) (pn : List (Addr × Obj)),
    PySem.W.nsIn K mainGlobals z = some (some (.ref D)) → Zc (.ref D) none oe → (∃ vs, oe.data = .fields vs) →
      DSs ((cxOf C8.CX0 P w K mg base Ng x sg g cdv A stack s H C8.E0).nox.suite a ((a, oe) :: pn)) (fun _ => True) W0 suite (dsu a z)
theorem suite_any {X : Cx} {suite : List Stmt} {a : Addr} {oe : Obj} {cls : Value} {d : Option Addr} {pn : List (Addr × Obj)} (hz : Zc cls d oe) (hf : ∃ vs, oe.data = .fields vs)
    (h : ∀ z ∈ xs, ∀ (D : Addr), PySem.W.nsIn X.K mainGlobals z = some (some (.ref D)) → Zc (.ref D) none oe → DSs (X.suite a ((a, oe) :: pn)) (fun _ => True) W0 suite (dsu a z)) :
    PSs (X.suite a ((a, oe) :: pn)) suite (fun D σ H => ∃ z ∈ xs, ∃ C : Addr, cls = .ref C ∧ PySem.W.nsIn X.K mainGlobals z = some (some (.ref C)) ∧ d = none ∧ liftS X.K (fun _ => True) W0 (dsu a z) D σ H) := by
  constructor
  intro pins s σ H D I q
  obtain ⟨z, hz1, C, rfl, hC, rfl, q⟩ := q
  exact (h z hz1 C hC hz).run pins s σ H D I q
theorem gives_A {iy ie j : Nat} {g : Addr} {cdv : Value} {A : Around} {stack : List Env} {py pc pa p1 p2 pe pB ph pt pr pz : Pos} (E : Errs K mg B xs) (hBx : ∃ CB : Addr, PySem.W.nsIn K mainGlobals B = some (some (.ref CB))) (hnd : Ng.Nodup)
    (hS : SuiteOk P w K mg base Ng x sg xs (b₀ :: suite) dsu) (hq : ∀ o R, T o R → dWordA iy ie Ng.length c0 xs dsu o R)
    (hiy : Ng[iy]? = some y) (hie : Ng[ie]? = some e) (hly : sg.names.lookup y = some .local) (hle : sg.names.lookup e = some .local) (hy0 : iy ≠ 0) (hdy : (y == ("__debug__" : Str)) = false) (hcy : (y == ("__classdict__" : Str)) = false)
    (hB : sg.names.lookup B = some .globalImplicit) (hdB : (B == ("__debug__" : Str)) = false) (hN1 : 1 ≤ Ng.length) :
    GivesW P w K mg base A stack Ng x sg g cdv [.Assign [.Name y py] (.Constant (.str c0) j pc) pa, .Try [.Expr (.Call (.Name a p1) [] [] p2) pe] [.ExceptHandler (some (.Name B pB)) (some e) (b₀ :: suite) ph] [] [] pt, .Return (some (.Name y pr)) pz] a T := by
  intro f c' q s H Q tl hr act hc mono htl
  obtain ⟨CB, hCB⟩ := hBx
  have hBm := E.mg _ _ hCB
  refine ⟨_, pss_cons (ps_set (X := (cxOf C8.CX0 P w K mg base Ng x sg g cdv A stack s H C8.E0).nox) (i := iy) hnd hiy (.inl hly) pe_str (by rfl) (.inr hly)) (pss_cons (ps_try_as (X := (cxOf C8.CX0 P w K mg base Ng x sg g cdv A stack s H C8.E0).nox) (i := ie) (c := .ref CB)
      (tb := fun W D σ H => σ[0]? = some (some (.ref f)) ∧ H c' = some (CodeO c' q) ∧ tl (WE W σ) H (fun _ H' => D.nx σ H'))
      (ts := fun a cls d D σ H => ∃ z ∈ xs, ∃ C : Addr, cls = .ref C ∧ PySem.W.nsIn K mainGlobals z = some (some (.ref C)) ∧ d = none ∧ liftS K (fun _ => True) W0 (dsu a z) D σ H)
      rfl rfl hnd hie hle ⟨hB, hdB, .inl hBm⟩ takes0 (fun W pn xe tk _ => ?_) (fun a oe cls d pn hz hf => suite_any (X := (cxOf C8.CX0 P w K mg base Ng x sg g cdv A stack s H C8.E0).nox) hz hf fun z hz1 D hD hz2 => hS g cdv A stack s H hr z hz1 a D oe pn hD hz2 hf))
      (pss_one (st_ret (X := (cxOf C8.CX0 P w K mg base Ng x sg g cdv A stack s H C8.E0).nox) (RK := fun _ => True) (W := W0) (de_v iy hiy (.inl hly) hdy hcy)))), ?_⟩
  · have hp := pss_one (ps_expr (pos := pe) (act W pn xe p1 p2 tk))
    constructor
    intro pins s' σ H' D I h'
    exact hp.run pins s' σ H' D I h'
  · have h0 : ((L2.start Ng [V.ref f]).set iy (some (.str c0)))[0]? = some (some (.ref f)) := by
      rw [List.getElem?_set_ne hy0, start_get (by simp)]
      rfl
    show ((L2.start Ng [V.ref f]).set iy (some (.str c0)))[0]? = some (some (.ref f)) ∧ H c' = some (CodeO c' q) ∧ tl _ H _
    refine ⟨h0, hc, mono _ _ _ _ _ (fun cls dd H' hx => ?_) (fun v H' hx => ?_) htl⟩
    · obtain ⟨S', x0, sub, nt, ⟨hx1, hx2⟩, ht⟩ := hx
      obtain ⟨hf, hm, hd⟩ := hq _ _ ht
      obtain ⟨C, ok⟩ := E.ok _ hm
      have e1 := ok.at_
      rw [hx1] at e1
      cases e1
      have dn : dd = none := by
        rcases hx2 with z | ⟨z1, _⟩
        · exact z.1
        · exact absurd hf z1
      obtain ⟨CB2, hb1, hb2⟩ := ok.exm
      rw [hCB] at hb1
      cases hb1
      refine ⟨true, hb2, fun _ aa na => ⟨x0.1, hm, C, rfl, ok.at_, dn, ?_⟩, fun z => nomatch z⟩
      have R1 := ((er_start (K := K) (f := f) sub nt hN1).setD' (i := iy) (.str c0)).setD' (i := ie) (.raw (.ref aa))
      refine ⟨_, S', _, _, fun _ _ => False, R1, hd aa f, fun σ2 H2 S2 ρ2 R2 e2 q2 => ?_, fun v σ2 H2 S2 ρ2 z R2 e2 r2 q2 => er_postW R2 r2 q2, fun _ _ _ _ _ _ z => z.elim, fun _ _ _ _ _ _ z => z.elim, fun _ _ _ _ _ _ _ _ _ _ z => z.elim⟩
      refine ⟨_, S2, _, { nx := fun _ => False, rt := fun z _ => PostW K S' H' Q z }, fun _ _ => False, R2.unset ie, q2, fun _ _ _ _ _ _ z => z.elim, fun v σ3 H3 S3 ρ3 z R3 e3 r3 q3 => er_postW R3 r3 q3, fun _ _ _ _ _ _ z => z.elim, fun _ _ _ _ _ _ z => z.elim, fun _ _ _ _ _ _ _ _ _ _ z => z.elim⟩
    · obtain ⟨S', z, sub, nt, r, ht⟩ := hx
      have hd : PostW K S' H' Q (.str c0) := hq _ _ ht
      have R1 := (er_start (K := K) (f := f) sub nt hN1).setD' (i := iy) (.str c0)
      refine ⟨_, S', _, { nx := fun _ => False, rt := fun z _ => PostW K S' H' Q z }, fun _ _ => False, R1, ?_, fun _ _ _ _ _ _ z => z.elim, fun v σ3 H3 S3 ρ3 z R3 e3 r3 q3 => er_postW R3 r3 q3, fun _ _ _ _ _ _ z => z.elim, fun _ _ _ _ _ _ z => z.elim, fun _ _ _ _ _ _ _ _ _ _ z => z.elim⟩
      have hl : iy < (rho0 Ng.length [D.raw (.ref f)]).length := by
        unfold rho0
        rw [List.length_append, List.length_map, List.length_replicate, List.length_singleton]
        have := (List.getElem?_eq_some_iff.mp hiy).1
        omega
      unfold dRet dVar
      simp only [List.getElem?_set_self hl]
      exact hd
end
end DL
/-! DL43: the law's end with tables of code objects -/
namespace DL
open PySem PySem.Spec PyProof.Rows L2 LamX

/-- what a law promises of its one argument, where the tables Tb are empty -/
def spLawT (K : PySem.W.Frag) (Tb : List (Addr × Str)) (n : Nat) : Sp := fun vs H Q _ => ∃ (p : Addr) (zs : List Int), vs = [V.ref p] ∧ zs.length ≤ n ∧ SqL K H p (zs.map V.int) ∧ (∀ t ∈ Tb, H t.1 = some (.tbl #[])) ∧ ∀ H', Q (.bl true) H'
theorem scr_resT {K : PySem.W.Frag} {H : Hp} {p : Addr} {zs : List Int} (h : SqL K H p (zs.map V.int)) : ∃ r : Res, r.p = p ∧ scrRK K zs r ∧ r.ok (fun _ => none) H ∧ ∀ a ∈ r.fp, ∀ ps, H a ≠ some (.tbl ps) := by
  rcases h with h | h
  · refine ⟨⟨p, [p], fun _ H => Rd H p (.lst (zs.map V.int)), fun {S S' H H'} _ e q => ?_, fun S H q a ha => ?_⟩, rfl, fun S H q => .inl q, h, fun a ha ps e => ?_⟩
    · have e1 := e p (List.mem_singleton.mpr rfl)
      unfold Rd at q ⊢
      rw [e1]; exact q
    · rw [List.mem_singleton.mp ha]
      rcases q with q | ⟨o, q⟩
      · exact ⟨_, q⟩
      · exact ⟨_, q⟩
    · rw [List.mem_singleton.mp (show a ∈ [p] from ha)] at e
      rcases h with q | ⟨o, q⟩
      · rw [e] at q; cases q
      · rw [e] at q; cases q
  · exact ⟨⟨p, [], fun _ _ => True, fun _ _ _ => trivial, fun _ _ _ a ha => by cases ha⟩, rfl, fun S H _ => .inr h, trivial, fun a ha => by cases ha⟩
section
variable {P : Program} {w : World} {K : PySem.W.Frag} {mg : Str → Option Value} {base : Heap} {x qual p0 : Str} {st : Stmt} {f : Addr} {fd : FuncData} {N ps : List Str} {k : Nat} {T : TSp} {d : DS} {inv : List D → Prop} {γ : Bool}
/-- THE RULE for the law's def: hand = _law_hand(script), then the rest -/
theorem def_lawT {Tb : List (Addr × Str)} {n : Nat} {s1 : Stmt} {rest : List Stmt} {t : DS} (F : Fun K x qual st f fd) (Sc : FnScope N [p0] (defScope st)) (hbody : defBody st = s1 :: rest)
    (hd : ∀ (zs : List Int) (cdv : Value) (A : Around) (outer : List Env) (s : Shared) (H : Hp) (E : XK), Room k (A.deeper (envOfC qual (defScope st) s.heap.objs.size f cdv)) → GdB γ (A.deeper (envOfC qual (defScope st) s.heap.objs.size f cdv)) → fd.code = cdv →
      DSt (cxOf (L2.CX P w) P w K mg base N qual (defScope st) f cdv A outer s H E) (scrRK K zs) (fun cls dd _ H' => E cls dd H') s1 (dSet 1 (dCallR THand 0 dANil)) ∧
      DSs (cxOf (L2.CX P w) P w K mg base N qual (defScope st) f cdv A outer s H E) (RKt K Tb) (fun cls dd _ H' => E cls dd H') rest t)
    (hN : 2 ≤ N.length) (hq : t (fun _ _ => False) { nx := fun _ => False, rt := fun x _ => x = .bl true } (.un :: .res :: List.replicate (N.length - 2) .un)) :
    FnG γ P w K mg base (k + 1) f fd [p0] (spLawT K Tb n) := by
  obtain ⟨oc, od, kV, doc, pm, an, cdv, ct, osl, rfl, lk, hcd⟩ := F.ex
  have len : ∀ vs H Q E, spLawT K Tb n vs H Q E → vs.length = [p0].length := by
    rintro vs H Q E ⟨p, zs, rfl, _⟩
    rfl
  apply fnG_of lk hcd Sc len
  rintro A outer s H vs Q E hr hg ⟨p, zs, rfl, hz, hS, hTb, hQ⟩
  rw [hbody]
  obtain ⟨D1, D2⟩ := hd zs cdv A outer s H E hr hg rfl
  refine ⟨_, pss_cons D1 D2, ?_⟩
  obtain ⟨r, rfl, rk, ok, nT⟩ := scr_resT hS
  have R0 : ER K (scrRK K zs) ⟨H, fun _ => none, r⟩ (fun _ => none) H (L2.start N [V.ref r.p]) (.res :: List.replicate (N.length - 1) .un) := by
    refine ⟨rk, ok, fun a o e => ?_, fun a o _ e => e, fun a o e => .inl e, Same.refl _, fun a _ => rfl, ok, ?_, fun i c e => ?_, fun i j a b h1 => ?_, fun a o e => by cases e⟩
    · have e1 : (none : Option HO) = some o := e
      cases e1
    · rw [start_len (by rw [List.length_singleton]; omega), List.length_cons, List.length_replicate]; omega
    · cases i with
      | zero =>
        have e' : Cell.res = c := Option.some.inj e
        subst e'
        rw [start_get (by simp)]
        rfl
      | succ i =>
        have e' : (List.replicate (N.length - 1) Cell.un)[i]? = some c := e
        rw [List.getElem?_replicate] at e'
        split at e'
        · cases e'; trivial
        · cases e'
    · have e : ownAt (Cell.res :: List.replicate (N.length - 1) Cell.un) i = none := by
        cases i with
        | zero => rfl
        | succ i =>
          show ownAt (List.replicate (N.length - 1) Cell.un) i = none
          unfold ownAt
          rw [List.getElem?_replicate]
          split <;> rfl
      rw [e] at h1; cases h1
  refine ⟨_, _, _, { nx := fun ρ => ρ.length = N.length ∧ ∃ hs, hInv hs ∧ ρ[1]? = some (.dat (.lst hs)), rt := fun _ _ => False }, fun _ _ => False, R0, ?_, ?_, fun _ _ _ _ _ _ _ _ _ z => z.elim, fun _ _ _ _ _ _ z => z.elim, fun _ _ _ _ _ _ z => z.elim, fun _ _ _ _ _ _ _ _ _ _ z => z.elim⟩
  · refine ⟨rfl, rfl, fun hs hi => ⟨by rw [List.length_set, List.length_cons, List.length_replicate]; omega, hs, hi, ?_⟩⟩
    exact List.getElem?_set_self (by rw [List.length_cons, List.length_replicate]; omega)
  · rintro σ1 H1 S1 ρ1 R1 e1 ⟨hl, hs, hi, h0⟩
    obtain ⟨v, c1, c2⟩ := R1.cell 1 _ h0
    have hσ : σ1.length = ρ1.length := R1.len.symm
    cases c2 with
    | @lst q xs _ c2 c3 =>
      obtain ⟨ms, a, b, c, e, rfl, i1, i2, i3, i4, i5⟩ := hi
      match xs, c3 with
      | [x0, x1, x2, x3, x4], .cons r0 (.cons r1 (.cons r2 (.cons r3 (.cons r4 .nil)))) =>
        cases r1; cases r2; cases r3; cases r4
        cases r0 with
        | @lst u ys _ d1 d2 =>
          have hne : u ≠ q := by
            rintro rfl
            rw [c2] at d1
            cases d1
            cases ms with
            | nil => cases d2
            | cons m ms =>
              have d3 := d2
              cases d3 with
              | cons d4 d5 => cases d4
          have R2 : ER K (RKt K Tb) ⟨H1, upd (fun _ => none) u (.lst ys), tres K hInv Tb q⟩ (upd (fun _ => none) u (.lst ys)) H1 σ1 ((List.replicate ρ1.length Cell.un).set 1 .res) := by
            have hT1 : ∀ z ∈ Tb, H1 z.1 = some (.tbl #[]) := fun z hz2 => R1.fr z.1 _ (fun w => nT z.1 w _ (hTb z hz2)) (hTb z hz2)
            have hok : (tres K hInv Tb q).ok (upd (fun _ => none) u (.lst ys)) H1 :=
              ⟨⟨_, [.lst (ms.map D.int), .int a, .int b, .int c, .int e], R1.sub _ _ c2, .cons (.lst upd_same (by rw [Reps.ints d2]; exact Reps.of_ints)) (.cons (.int _) (.cons (.int _) (.cons (.int _) (.cons (.int _) .nil)))), ms, a, b, c, e, rfl, i1, i2, i3, i4, i5⟩,
                fun z hz2 => ⟨#[], hT1 z hz2, True.intro, fun pos cv hc => by
                  have w : codeAmong pos [] = some cv := hc
                  simp [codeAmong] at w⟩⟩
            refine ⟨⟨q, rfl⟩, hok, fun a o z => ?_, fun a o _ z => z, fun a o z => .inl z, Same.refl _, fun a ha => ?_, hok, by rw [List.length_set, List.length_replicate]; exact R1.len, fun i c z => ?_, fun i j a b z => ?_, NTS.upd (fun a o e => by cases e) (by intro ps z; cases z)⟩
            · by_cases h : a = u
              · subst h
                rw [upd_same] at z
                cases z
                exact R1.sub _ _ d1
              · rw [upd_ne h] at z
                have z1 : (none : Option HO) = some o := z
                cases z1
            · rcases List.mem_cons.mp (show a ∈ q :: Tb.map (·.1) from ha) with e | e
              · subst e
                rw [upd_ne (Ne.symm hne)]
              · obtain ⟨z, hz2, e2⟩ := List.mem_map.mp e
                have w := hT1 z hz2
                have n : a ≠ u := fun y => by
                  rw [e2, y, R1.sub _ _ d1] at w
                  cases w
                rw [upd_ne n]
            · by_cases h : i = 1
              · subst h
                have hl : 1 < (List.replicate ρ1.length Cell.un).length := by
                  rw [List.length_replicate]
                  exact (List.getElem?_eq_some_iff.mp h0).1
                rw [List.getElem?_set_self hl] at z
                cases z
                exact c1
              · rw [List.getElem?_set_ne (Ne.symm h), List.getElem?_replicate] at z
                split at z
                · cases z; trivial
                · cases z
            · have e : ownAt ((List.replicate ρ1.length Cell.un).set 1 .res) i = none := by
                unfold ownAt
                by_cases h : i = 1
                · subst h
                  by_cases hl : 1 < (List.replicate ρ1.length Cell.un).length
                  · rw [List.getElem?_set_self hl]; rfl
                  · rw [List.getElem?_eq_none (by rw [List.length_set]; omega)]; rfl
                · rw [List.getElem?_set_ne (Ne.symm h), List.getElem?_replicate]
                  split <;> rfl
              rw [e] at z; cases z
          have hρ : (List.replicate ρ1.length Cell.un).set 1 .res = .un :: .res :: List.replicate (N.length - 2) .un := by
            rw [hl]
            obtain ⟨m, hm⟩ : ∃ m, N.length = m + 2 := ⟨N.length - 2, by omega⟩
            rw [hm]
            rfl
          rw [hρ] at R2
          refine ⟨_, _, _, _, _, R2, hq, fun _ _ _ _ _ _ z => z.elim, ?_, fun _ _ _ _ _ _ z => z.elim, fun _ _ _ _ _ _ z => z.elim, fun _ _ _ _ _ _ _ _ _ _ z => z.elim⟩
          intro v σ' H' S' ρ' y R' e' ry hy
          subst hy
          cases ry
          exact hQ H'
end
theorem can_lawT {P : Program} {w : World} {K : PySem.W.Frag} {mg : Str → Option Value} {base : Heap} {x : Str} {st : Stmt} {N : List Str} {k : Nat} {γ : Bool} {Tb : List (Addr × Str)} {n : Nat} {p0 : Str} {s1 : Stmt} {rest : List Stmt} {t : DS} (F : Has K mg x st [p0]) (Sc : FnScope N [p0] (defScope st)) (hbody : defBody st = s1 :: rest)
    (hd : ∀ (zs : List Int) (f : Addr) (cdv : Value) (A : Around) (outer : List Env) (s : Shared) (H : Hp) (E : XK), Room k (A.deeper (envOfC x (defScope st) s.heap.objs.size f cdv)) → GdB γ (A.deeper (envOfC x (defScope st) s.heap.objs.size f cdv)) →
      DSt (cxOf (L2.CX P w) P w K mg base N x (defScope st) f cdv A outer s H E) (scrRK K zs) (fun cls dd _ H' => E cls dd H') s1 (dSet 1 (dCallR THand 0 dANil)) ∧
      DSs (cxOf (L2.CX P w) P w K mg base N x (defScope st) f cdv A outer s H E) (RKt K Tb) (fun cls dd _ H' => E cls dd H') rest t)
    (hN : 2 ≤ N.length) (hq : t (fun _ _ => False) { nx := fun _ => False, rt := fun x _ => x = .bl true } (.un :: .res :: List.replicate (N.length - 2) .un)) : Can γ P w K mg base (k + 1) x [p0] (spLawT K Tb n) := by
  obtain ⟨f, fd, h1, h2, h3, h4⟩ := F.ex
  exact ⟨f, fd, h1, h2, h3, def_lawT h4 Sc hbody (fun zs cdv A outer s H E a b _ => hd zs f cdv A outer s H E a b) hN hq⟩
end DL
/-! DL44: the row's end, the tables of code objects empty at first -/
namespace DL
open PySem PySem.Spec PyProof.Rows L2 LamX

theorem law_endT {P : Program} {w : World} {K : PySem.W.Frag} {mg mb : Str → Option Value} {k n : Nat} {fa p : Addr} {x : Str} {s : Shared} {us : List Value} {zs : List Int} {cs : List (Addr × Addr)} {Tb : List (Addr × Str)}
    (hK : K.In s.heap) (hG : s.heap.Ns mainGlobals mg) (hB : s.heap.Ns builtinsNs mb) (hBB : ∀ x : Str, x ≠ "__name__" → mb x = bootBuiltins x) (hL : s.heap.NoLimit) (hgen : s.gens = #[])
    (hT : ∀ c ∈ cs, s.heap.get? c.2 = some { cls := .none, data := .fields #[] }) (nT : ∀ c ∈ cs, K.lookup c.2 = none) (C : ∀ c ∈ cs, PySem.W.CodeHd s.heap c.1 c.2) (hTb : ∀ t ∈ Tb, ∃ c ∈ cs, c.2 = t.1)
    (hbm : ∃ (bm : Addr) (ob : Obj), mg "__builtins__" = some (.ref bm) ∧ bm ≠ builtinsNs ∧ s.heap.get? bm = some ob ∧ ob.cls = .type "module" ∧ ob.dict = some builtinsNs ∧ ob.data = .plain)
    (hp : s.heap.get? p = some { cls := .type "list", data := .seq us.toArray }) (hz : IntsAre us zs) (hlz : zs.length ≤ sizeLine) (hln : zs.length ≤ n) (hrm : Room k callerA)
    (F : ∀ base : Heap, K.In base → base.Ns mainGlobals mg → (∀ c ∈ cs, TabB base mg c.1 c.2) → ∃ fd : FuncData, (∀ (s : Shared) (u : Value), K.In s.heap → BindsTo s fd ⟨[u], []⟩ [(x, u)]) ∧ FnG true P w K mg base k fa fd [x] (spLawT K Tb n)) :
    codeAny (model P w) callerA (.call (.ref fa) ⟨[.ref p], []⟩) (fun r t => r = .ok (.ret (.bool true)) ∧ OldK s.heap t.heap ∧ t.os = s.os ∧ AllBare t.gens) s := by
  have hvs := vals_ints hz
  have hul := hz.length
  have isT : ∀ b, b ∈ cs.map (·.2) → s.heap.get? b = some { cls := .none, data := .fields #[] } ∧ K.lookup b = none := fun b hb => by
    obtain ⟨c, hc, e⟩ := List.mem_map.mp hb
    rw [← e]
    exact ⟨hT c hc, nT c hc⟩
  have pT : p ∉ cs.map (·.2) := fun z => by
    have q := (isT p z).1
    rw [hp] at q
    have z' : Data.seq us.toArray _ = Data.fields #[] := congrArg Obj.data (Option.some.inj q)
    cases z'
  -- the heap that is tracked: the tables; the script, unless it is the module's
  have ⟨H, hS, hok, hone, hfz, hTH⟩ : ∃ H : Hp, SqL K H p (zs.map V.int) ∧ HOk P w H s.heap ∧ (∀ b, H b ≠ none → (b = p ∧ K.lookup p = none) ∨ b ∈ cs.map (·.2)) ∧ (∀ b u, b ∉ cs.map (·.2) → H b = some u → ∃ o ys, u = .frz o (.lst ys)) ∧ ∀ b, b ∈ cs.map (·.2) → H b = some (.tbl #[]) := by
    cases hk : K.lookup p with
    | some o =>
      have e := hK p o hk
      rw [hp] at e
      cases e
      refine ⟨fun b => if b ∈ cs.map (·.2) then some (.tbl #[]) else none, .inr ⟨_, us.toArray, _, hk, rfl, rfl, rfl, ?_, by simpa using hvs⟩, fun b u z => ?_, fun b z => ?_, fun b u hb z => ?_, fun b hb => if_pos hb⟩
      · rw [List.size_toArray, hul]; exact hlz
      · by_cases hb : b ∈ cs.map (·.2)
        · have z1 := (if_pos hb).symm.trans z
          cases z1
          exact (isT b hb).1
        · have z1 := (if_neg hb).symm.trans z
          cases z1
      · by_cases hb : b ∈ cs.map (·.2)
        · exact .inr hb
        · exact absurd (if_neg hb) z
      · have z1 := (if_neg hb).symm.trans z
        cases z1
    | none =>
      refine ⟨fun b => if b ∈ cs.map (·.2) then some (.tbl #[]) else if b = p then some (.frz { cls := .type "list", data := .seq us.toArray } (.lst (zs.map V.int))) else none, .inl (.inr ⟨_, (if_neg pT).trans (if_pos rfl)⟩), fun b u z => ?_, fun b z => ?_, fun b u hb z => ?_, fun b hb => if_pos hb⟩
      · by_cases hb : b ∈ cs.map (·.2)
        · have z1 := (if_pos hb).symm.trans z
          cases z1
          exact (isT b hb).1
        · have z1 := (if_neg hb).symm.trans z
          by_cases e : b = p
          · subst e
            have z2 := (if_pos rfl).symm.trans z1
            cases z2
            exact ⟨hp, by rw [List.length_map]; exact hlz, us, _, hvs, hp⟩
          · have z2 := (if_neg e).symm.trans z1
            cases z2
      · by_cases hb : b ∈ cs.map (·.2)
        · exact .inr hb
        · by_cases e : b = p
          · exact .inl ⟨e, rfl⟩
          · exact absurd ((if_neg hb).trans (if_neg e)) z
      · have z1 := (if_neg hb).symm.trans z
        by_cases e : b = p
        · have z2 := (if_pos e).symm.trans z1
          cases z2
          exact ⟨_, _, rfl⟩
        · have z2 := (if_neg e).symm.trans z1
          cases z2
  have other : ∀ {b : Addr} {o : Obj}, s.heap.get? b = some o → (b = p → K.lookup p = none → False) → (b ∈ cs.map (·.2) → False) → H b = none := fun {b o} e hne hnt => by
    cases q : H b with
    | none => rfl
    | some u =>
      rcases hone b (by rw [q]; simp) with z | z
      · exact (hne z.1 z.2).elim
      · exact (hnt z).elim
  have inK : K.In (hidT s.heap H) := fun b o e => hidT_get (hK b o e) (other (hK b o e) (fun e1 e2 => by subst e1; rw [e2] at e; cases e) fun z => by rw [(isT b z).2] at e; cases e)
  have free : ∀ {b : Addr} {o : Obj}, s.heap.get? b = some o → (∀ vs n, o.data ≠ .seq vs n) → o.data ≠ .fields #[] → (hidT s.heap H).get? b = some o := fun {b o} e h1 h2 => hidT_get e (other e (fun e4 _ => by
    subst e4
    rw [hp] at e
    cases e
    exact h1 _ _ rfl) fun z => by
    have e2 := (isT b z).1
    rw [e] at e2
    cases e2
    exact h2 rfl)
  have inNs : ∀ {b : Addr} {m : Str → Option Value}, s.heap.Ns b m → (hidT s.heap H).Ns b m := fun {b m} ⟨o, es, ep, e1, e2, e3⟩ => ⟨o, es, ep, free e1 (fun vs n z => by rw [e2] at z; cases z) (fun z => by rw [e2] at z; cases z), e2, e3⟩
  have TB : ∀ c ∈ cs, TabB (hidT s.heap H) mg c.1 c.2 := fun c hc => by
    have hTp := hT c hc
    refine ⟨?_, ?_, fun z => ?_⟩
    · obtain ⟨o, us, file, tf, flags, tg, inF, text, tt, e1, r1, r2, r3, r⟩ := C c hc
      exact ⟨o, us, file, tf, flags, tg, inF, text, tt, free e1 (fun vs n z => by rw [r2] at z; cases z) (fun z => by rw [r2] at z; cases z; simp at r3), r1, r2, r3, r⟩
    · obtain ⟨bm, ob, b1, b2, b3, b4, b5, b6⟩ := hbm
      have nG : bm ≠ mainGlobals := fun q => by
        obtain ⟨o, es, ep, e, hd, _⟩ := hG
        rw [q, e] at b3
        cases b3
        rw [hd] at b6
        cases b6
      have nP : bm ≠ c.2 := fun q => by
        rw [q, hTp] at b3
        cases b3
        cases b6
      exact ⟨bm, ob, b1, b2, nG, nP, free b3 (fun vs n z => by rw [b6] at z; cases z) (fun z => by rw [b6] at z; cases z), b4, b5, b6⟩
    · obtain ⟨o, es, ep, e, hd, _⟩ := hG
      rw [z, hTp] at e
      cases e
      cases hd
  have hE : Env0 P w K mg (hidT s.heap H) callerA [] s H := by
    refine ⟨rfl, ⟨inK, inNs hG, ⟨mb, inNs hB, hBB⟩, ?_⟩, fun b o e => of_hidT e, Nat.le_of_eq (hidT_size _ _), trivial, fun b hb => ?_, hok, .of_eq hgen⟩
    · obtain ⟨mc, h1, h2⟩ := hL
      exact ⟨mc, inNs h1, h2⟩
    · have hb1 : b ∈ ([] : List Addr) := hb
      cases hb1
  obtain ⟨fd, hbd, F0⟩ := F _ inK (inNs hG) TB
  have call := F0.run callerA [] s H ⟨[.ref p], []⟩ [.ref p] [.ref p] (fun v _ => v = .bl true) (fun _ _ _ => False) hrm (fun _ => rfl) hE (hbd s (.ref p) hK) (.cons rfl .nil) ⟨p, zs, rfl, hln, hS, fun t ht => by
    obtain ⟨c, hc, e⟩ := hTb t ht
    rw [← e]
    exact hTH _ (List.mem_map.mpr ⟨c, hc, rfl⟩), fun _ => rfl⟩
  apply codeAny_mono call
  intro r t h
  cases r with
  | error e =>
    obtain ⟨_, _, _, _, _, _, _, _, _, _, _, _, z⟩ := h
    exact z.elim
  | ok fl =>
    cases fl with
    | ret u =>
      obtain ⟨v, H', h1, h2, h3, h4, h5, h6⟩ := h
      have h7 : v = .bl true := h6
      subst h7
      obtain rfl : u = Value.bool true := h5
      have key : ∀ b o, b ∉ cs.map (·.2) → s.heap.get? b = some o → t.heap.get? b = some o := fun b o nb e => by
        cases q : H b with
        | none =>
          refine h3.keep b o e q (fun hb => ?_) fun hb => ?_
          · have hb1 : b ∈ ([] : List Addr) := hb
            cases hb1
          · cases hb
        | some y =>
          obtain ⟨o1, ys, rfl⟩ := hfz b y nb q
          have a1 := (hok b _ q).1
          have a2 := (h4 b _ (h3.frzs b o1 _ q)).1
          rw [e] at a1
          cases a1
          exact a2
      have grown : ∀ c ∈ cs, ∃ more : Array Value, t.heap.get? c.2 = some { cls := .none, data := .fields more } := fun c hc => by
        obtain ⟨more, z⟩ := h3.tbls c.2 #[] (hTH _ (List.mem_map.mpr ⟨c, hc, rfl⟩))
        exact ⟨_, h4 c.2 _ z⟩
      refine ⟨rfl, ⟨fun b o e => ?_, fun b o e => ?_⟩, h1, h2⟩
      · by_cases hb : b ∈ cs.map (·.2)
        · obtain ⟨c, hc, ep⟩ := List.mem_map.mp hb
          obtain ⟨more, hm⟩ := grown c hc
          rw [← ep] at e ⊢
          rw [hT c hc] at e
          cases e
          exact .inr (.inl ⟨((C c hc).tab (hT c hc)).isCodeTable, rfl, #[], more, rfl, by rw [Array.empty_append]; exact hm⟩)
        · exact .inl (key b o hb e)
      · by_cases hb : b ∈ cs.map (·.2)
        · obtain ⟨c, hc, ep⟩ := List.mem_map.mp hb
          obtain ⟨more, hm⟩ := grown c hc
          rw [← ep]
          exact ⟨_, hm⟩
        · exact ⟨o, key b o hb e⟩
    | next => exact False.elim h
    | brk => exact False.elim h
    | cont => exact False.elim h
theorem walk_GT {l : PySem.W.OpenLaw} {n k : Nat} {q : Program} {loose : List Str} {XP : (Str → Option Value) → Heap → Prop} {YP : World → Heap → Prop} {d : DefRec} {K : Params → PySem.W.Frag} {x : Str}
    (hn : l.most = some n) (hn2 : n ≤ sizeLine) (hdf : d.params.defaults = []) (hr : Room k callerA) (hY : ∀ (w : World) (h : Heap), YP w h → (K w.params).In h)
    (F : ∀ (w : World) (mg : Str → Option Value) (fa : Addr) (h : Heap), (K w.params).In h → h.Ns mainGlobals mg → mg d.name = some (.ref fa) → (∃ mb loose mean, PyProof.Rows.Top q loose mean mg mb h) →
      ∃ (cs : List (Addr × Addr)) (Tb : List (Addr × Str)), (∀ c ∈ cs, h.get? c.2 = some { cls := .none, data := .fields #[] }) ∧ (∀ c ∈ cs, (K w.params).lookup c.2 = none) ∧ (∀ c ∈ cs, PySem.W.CodeHd h c.1 c.2) ∧ (∀ t ∈ Tb, ∃ c ∈ cs, c.2 = t.1) ∧
      ∀ base : Heap, (K w.params).In base → base.Ns mainGlobals mg → (∀ c ∈ cs, TabB base mg c.1 c.2) → ∃ fd : FuncData, (∀ (s : Shared) (u : Value), (K w.params).In s.heap → BindsTo s fd ⟨[u], []⟩ [(x, u)]) ∧ FnG true l.prog w (K w.params) mg base k fa fd [x] (spLawT (K w.params) Tb n)) :
    PySem.W.WalkO q loose XP YP l.row.toRowW d [] (fun f vs => PySem.call f vs) := by
  apply Att.attach_call hn hdf
  intro w s₀ s mg mb fa o pm cd doc p us zs G Y ho hd hcd hmg hp hz hlen hgen
  have hK := hY w _ Y
  obtain ⟨cs, Tb, a1, a2, a3, a4, a5⟩ := F w mg fa _ hK G.T.g hmg ⟨_, _, _, G.T⟩
  exact law_endT hK G.T.g G.T.b G.T.builtins G.T.nolimit hgen a1 a2 a3 a4 G.T.bmain hp hz (Nat.le_trans hlen hn2) hlen hr a5
end DL
/-! DL45: tables found; words of the second shape -/
namespace DL
open PySem PySem.Spec PyProof.Rows L2 LamX

theorem tabOf_mk {K : PySem.W.Frag} {h base : Heap} {mg : Str → Option Value} {x : Str} {c P : Addr} (X : K.In h) (G : h.Ns mainGlobals mg) (ht : PySem.W.tabIn K x = some (c, P)) (TB : TabB base mg c P) : TabOf K base mg x P := by
  refine ⟨c, TB, fun f fd st hm F => ?_⟩
  obtain ⟨oc, od, kV, doc, pm, an, cdv, ct, osl, rfl, lk, hcd⟩ := F.ex
  unfold PySem.W.tabIn at ht
  split at ht
  · rename_i f' hf
    have e1 := PySem.W.mg_of X G hf
    rw [hm] at e1
    cases e1
    rw [lk] at ht
    dsimp only at ht
    split at ht
    · split at ht
      · split at ht
        · cases ht
          first | rfl | assumption
        · cases ht
      · cases ht
    · cases ht
  · cases ht
/-- the table P of the lambdas named q, among the tables Tb -/
structure LamTab (Tb : List (Addr × Str)) (P : Addr) (q : Str) : Prop where
  mem : (P, q) ∈ Tb
  one : ∀ t ∈ Tb, t.1 = P → t.2 = q
theorem lamTabs {Tb : List (Addr × Str)} (h : (Tb.map (·.1)).Nodup) : ∀ t ∈ Tb, LamTab Tb t.1 t.2 := fun t ht => ⟨ht, fun u hu e => by
  induction Tb with
  | nil => cases ht
  | cons a r ih =>
    rw [List.map_cons, List.nodup_cons] at h
    rcases List.mem_cons.mp ht with e1 | h1
    · rcases List.mem_cons.mp hu with e2 | h2
      · rw [e1, e2]
      · exact absurd (List.mem_map.mpr ⟨u, h2, by rw [e, e1]⟩) h.1
    · rcases List.mem_cons.mp hu with e2 | h2
      · exact absurd (List.mem_map.mpr ⟨t, h1, by rw [← e, e2]⟩) h.1
      · exact ih h.2 h1 h2⟩
/-- what a lambda's body lets out -/
theorem tkL {X : Cx} {A : Around} {outer : List Env} {s : Shared} {H : Hp} {E : XK} {scope : Scope} {f c' : Addr} : Takes (lamCx X A outer s H E scope f c') (fun cls dd _ H' => E cls dd H') := takes_of rfl rfl rfl rfl
theorem room_uS {X : Cx} {j : Nat} {a : Addr} {pn : List (Addr × Obj)} (hr : Room j X.A) : (X.suite a pn).A.units + 65 < cLine := by
  have z := room_u hr
  exact z
theorem room_uS64 {X : Cx} {j : Nat} {a : Addr} {pn : List (Addr × Obj)} (hr : Room j X.A) : (X.suite a pn).A.units + 64 < cLine := by
  have z := room_u64 hr
  exact z
theorem room_uS0 {X : Cx} {j : Nat} {a : Addr} {pn : List (Addr × Obj)} (hr : Room j X.A) : (X.suite a pn).A.units < cLine := by
  have z := room_u0 hr
  exact z
section
variable {P : Program} {w : World} {K : PySem.W.Frag} {mg : Str → Option Value} {base : Heap} {x B a e c0 : Str} {xs Ng : List Str} {sg : Scope} {T : WSp} {b₀ : Stmt} {suite : List Stmt} {dsu : Addr → Str → DS}
theorem gives_B {ie j : Nat} {g : Addr} {cdv : Value} {A : Around} {stack : List Env} {pc p1 p2 pe pB ph pt pz : Pos} (E : Errs K mg B xs) (hBx : ∃ CB : Addr, PySem.W.nsIn K mainGlobals B = some (some (.ref CB))) (hnd : Ng.Nodup)
    (hS : SuiteOk P w K mg base Ng x sg xs (b₀ :: suite) dsu) (hq : ∀ o R, T o R → dWordB ie Ng.length c0 xs dsu o R)
    (hie : Ng[ie]? = some e) (hle : sg.names.lookup e = some .local) (hB : sg.names.lookup B = some .globalImplicit) (hdB : (B == ("__debug__" : Str)) = false) (hN1 : 1 ≤ Ng.length) :
    GivesW P w K mg base A stack Ng x sg g cdv [.Try [.Expr (.Call (.Name a p1) [] [] p2) pe] [.ExceptHandler (some (.Name B pB)) (some e) (b₀ :: suite) ph] [] [] pt, .Return (some (.Constant (.str c0) j pc)) pz] a T := by
  intro f c' q s H Q tl hr act hc mono htl
  obtain ⟨CB, hCB⟩ := hBx
  have hBm := E.mg _ _ hCB
  refine ⟨_, pss_cons (ps_try_as (X := (cxOf C8.CX0 P w K mg base Ng x sg g cdv A stack s H C8.E0).nox) (i := ie) (c := .ref CB)
      (tb := fun W D σ H => σ[0]? = some (some (.ref f)) ∧ H c' = some (CodeO c' q) ∧ tl (WE W σ) H (fun _ H' => D.nx σ H'))
      (ts := fun a cls d D σ H => ∃ z ∈ xs, ∃ C : Addr, cls = .ref C ∧ PySem.W.nsIn K mainGlobals z = some (some (.ref C)) ∧ d = none ∧ liftS K (fun _ => True) W0 (dsu a z) D σ H)
      rfl rfl hnd hie hle ⟨hB, hdB, .inl hBm⟩ takes0 (fun W pn xe tk _ => ?_) (fun a oe cls d pn hz hf => suite_any (X := (cxOf C8.CX0 P w K mg base Ng x sg g cdv A stack s H C8.E0).nox) hz hf fun z hz1 D hD hz2 => hS g cdv A stack s H hr z hz1 a D oe pn hD hz2 hf))
      (pss_one (st_ret (X := (cxOf C8.CX0 P w K mg base Ng x sg g cdv A stack s H C8.E0).nox) (RK := fun _ => True) (W := W0) de_str)), ?_⟩
  · have hp := pss_one (ps_expr (pos := pe) (act W pn xe p1 p2 tk))
    constructor
    intro pins s' σ H' D I h'
    exact hp.run pins s' σ H' D I h'
  · have h0 : (L2.start Ng [V.ref f])[0]? = some (some (.ref f)) := by
      rw [start_get (by simp)]
      rfl
    show (L2.start Ng [V.ref f])[0]? = some (some (.ref f)) ∧ H c' = some (CodeO c' q) ∧ tl _ H _
    refine ⟨h0, hc, mono _ _ _ _ _ (fun cls dd H' hx => ?_) (fun v H' hx => ?_) htl⟩
    · obtain ⟨S', x0, sub, nt, ⟨hx1, hx2⟩, ht⟩ := hx
      obtain ⟨hf, hm, hd⟩ := hq _ _ ht
      obtain ⟨C, ok⟩ := E.ok _ hm
      have e1 := ok.at_
      rw [hx1] at e1
      cases e1
      have dn : dd = none := by
        rcases hx2 with z | ⟨z1, _⟩
        · exact z.1
        · exact absurd hf z1
      obtain ⟨CB2, hb1, hb2⟩ := ok.exm
      rw [hCB] at hb1
      cases hb1
      refine ⟨true, hb2, fun _ aa na => ⟨x0.1, hm, C, rfl, ok.at_, dn, ?_⟩, fun z => nomatch z⟩
      have R1 := (er_start (K := K) (f := f) sub nt hN1).setD' (i := ie) (.raw (.ref aa))
      refine ⟨_, S', _, _, fun _ _ => False, R1, hd aa f, fun σ2 H2 S2 ρ2 R2 e2 q2 => ?_, fun v σ2 H2 S2 ρ2 z R2 e2 r2 q2 => er_postW R2 r2 q2, fun _ _ _ _ _ _ z => z.elim, fun _ _ _ _ _ _ z => z.elim, fun _ _ _ _ _ _ _ _ _ _ z => z.elim⟩
      refine ⟨_, S2, _, { nx := fun _ => False, rt := fun z _ => PostW K S' H' Q z }, fun _ _ => False, R2.unset ie, q2, fun _ _ _ _ _ _ z => z.elim, fun v σ3 H3 S3 ρ3 z R3 e3 r3 q3 => er_postW R3 r3 q3, fun _ _ _ _ _ _ z => z.elim, fun _ _ _ _ _ _ z => z.elim, fun _ _ _ _ _ _ _ _ _ _ z => z.elim⟩
    · obtain ⟨S', z, sub, nt, r, ht⟩ := hx
      have hd : PostW K S' H' Q (.str c0) := hq _ _ ht
      have R1 := er_start (K := K) (f := f) sub nt hN1
      refine ⟨_, S', _, { nx := fun _ => False, rt := fun z _ => PostW K S' H' Q z }, fun _ _ => False, R1, hd, fun _ _ _ _ _ _ z => z.elim, fun v σ3 H3 S3 ρ3 z R3 e3 r3 q3 => er_postW R3 r3 q3, fun _ _ _ _ _ _ z => z.elim, fun _ _ _ _ _ _ z => z.elim, fun _ _ _ _ _ _ _ _ _ _ z => z.elim⟩
end
end DL
/-! DL46: small things for the printed texts -/
namespace DL
open PySem PySem.Spec PyProof.Rows L2 LamX

abbrev lamQ (x : Str) : Str := (x ++ ".<locals>.") ++ "<lambda>"
theorem errs_base {K : PySem.W.Frag} {mg : Str → Option Value} {B x : Str} {xs : List Str} (E : Errs K mg B xs) (h : x ∈ xs) : ∃ CB : Addr, PySem.W.nsIn K mainGlobals B = some (some (.ref CB)) := by
  obtain ⟨C, ok⟩ := E.ok x h
  obtain ⟨CB, h1, _⟩ := ok.exm
  exact ⟨CB, h1⟩
theorem tab_get {K : PySem.W.Frag} {q : Program} {h : Heap} {mg : Str → Option Value} {x : Str} {c P : Addr} (T : ∃ mb loose mean, PyProof.Rows.Top q loose mean mg mb h) (X : K.In h) (hr : ((recsOf q).find? (fun e => e.name == x)).isSome = true) (ht : PySem.W.tabIn K x = some (c, P)) :
    h.get? P = some { cls := .none, data := .fields #[] } ∧ PySem.W.CodeHd h c P := by
  obtain ⟨mb, loose, mean, T⟩ := T
  obtain ⟨d, hd⟩ := Option.isSome_iff_exists.mp hr
  obtain ⟨a, b⟩ := PySem.W.tab_of T X hd ht
  exact ⟨b, a⟩
theorem nodup_of {l : List Addr} (h : decide l.Nodup = true) : l.Nodup := of_decide_eq_true h
theorem law_fdT {P : Program} {w : World} {K : PySem.W.Frag} {mg : Str → Option Value} {base : Heap} {k : Nat} {x p0 : Str} {fa : Addr} {sp : Sp} (hm : mg x = some (.ref fa)) (C : Can true P w K mg base k x [p0] sp) :
    ∃ fd : FuncData, (∀ (s : Shared) (u : Value), K.In s.heap → BindsTo s fd ⟨[u], []⟩ [(p0, u)]) ∧ FnG true P w K mg base k fa fd [p0] sp := by
  obtain ⟨f, fd, h1, h2, h3, F⟩ := C.ex
  rw [hm] at h1
  cases h1
  exact ⟨fd, fun s u hK => h3 s [u] hK rfl, F⟩
end DL
namespace DL
open PySem PySem.Spec PyProof.Rows L2
/-- the things of a row -/
def itemsD : D → List D
  | .tup xs => xs
  | .lst xs => xs
  | _ => []
@[simp] theorem itemsD_tup {xs : List D} : itemsD (.tup xs) = xs := rfl
@[simp] theorem itemsD_lst {xs : List D} : itemsD (.lst xs) = xs := rfl
def isSeqD : D → Bool
  | .tup _ => true
  | .lst _ => true
  | _ => false
@[simp] theorem isSeqD_tup {xs : List D} : isSeqD (.tup xs) = true := rfl
@[simp] theorem isSeqD_lst {xs : List D} : isSeqD (.lst xs) = true := rfl
def T_check_hand_x : TSp := fun ds R E => ∃ x, ds = [x] ∧ okT x ∧ (isHandD x = true → R .non) ∧ (isHandD x = false → E ("NoHand", []))
def T_check_deck_x : TSp := fun ds R E => ∃ x, ds = [x] ∧ okT x ∧ (isDeckD x = true → R .non) ∧ (isDeckD x = false → E ("NoDeck", []))
def T_check_card_x : TSp := fun ds R E => ∃ x, ds = [x] ∧ x.tyN.isSome = true ∧ (inR 0 51 x = true → R .non) ∧ (inR 0 51 x = false → E ("NoCard", []))
theorem mono_check_hand_x : MonoT T_check_hand_x := fun ds R R2 E E2 hR hE x => (let ⟨v1, v2⟩ := x; ⟨v1, (let ⟨v3, v4, v5, v6⟩ := v2; ⟨v3, v4, (fun v7 => hR _ (v5 v7)), (fun v8 => hE _ (v6 v8))⟩)⟩)
theorem len_check_hand_x : ∀ ds R E, T_check_hand_x ds R E → ds.length = 1 := by rintro ds R E ⟨_, rfl, _⟩; rfl
theorem mono_check_deck_x : MonoT T_check_deck_x := fun ds R R2 E E2 hR hE x => (let ⟨v1, v2⟩ := x; ⟨v1, (let ⟨v3, v4, v5, v6⟩ := v2; ⟨v3, v4, (fun v7 => hR _ (v5 v7)), (fun v8 => hE _ (v6 v8))⟩)⟩)
theorem len_check_deck_x : ∀ ds R E, T_check_deck_x ds R E → ds.length = 1 := by rintro ds R E ⟨_, rfl, _⟩; rfl
theorem mono_check_card_x : MonoT T_check_card_x := fun ds R R2 E E2 hR hE x => (let ⟨v1, v2⟩ := x; ⟨v1, (let ⟨v3, v4, v5, v6⟩ := v2; ⟨v3, v4, (fun v7 => hR _ (v5 v7)), (fun v8 => hE _ (v6 v8))⟩)⟩)
theorem len_check_card_x : ∀ ds R E, T_check_card_x ds R E → ds.length = 1 := by rintro ds R E ⟨_, rfl, _⟩; rfl
@[simp] theorem T_check_hand_x_s {x : D} {R : D → Prop} {E : Exn → Prop} : T_check_hand_x [x] R E = (okT x ∧ (isHandD x = true → R .non) ∧ (isHandD x = false → E ("NoHand", []))) := by
  apply propext
  constructor
  · rintro ⟨_, e, h⟩
    simp only [List.cons.injEq, D.tup.injEq, D.lst.injEq, D.int.injEq, D.bl.injEq, D.str.injEq, and_true] at e
    obtain rfl := e
    exact h
  · intro h
    exact ⟨x, rfl, h⟩
@[simp] theorem T_check_deck_x_s {x : D} {R : D → Prop} {E : Exn → Prop} : T_check_deck_x [x] R E = (okT x ∧ (isDeckD x = true → R .non) ∧ (isDeckD x = false → E ("NoDeck", []))) := by
  apply propext
  constructor
  · rintro ⟨_, e, h⟩
    simp only [List.cons.injEq, D.tup.injEq, D.lst.injEq, D.int.injEq, D.bl.injEq, D.str.injEq, and_true] at e
    obtain rfl := e
    exact h
  · intro h
    exact ⟨x, rfl, h⟩
@[simp] theorem T_check_card_x_s {x : D} {R : D → Prop} {E : Exn → Prop} : T_check_card_x [x] R E = (x.tyN.isSome = true ∧ (inR 0 51 x = true → R .non) ∧ (inR 0 51 x = false → E ("NoCard", []))) := by
  apply propext
  constructor
  · rintro ⟨_, e, h⟩
    simp only [List.cons.injEq, D.tup.injEq, D.lst.injEq, D.int.injEq, D.bl.injEq, D.str.injEq, and_true] at e
    obtain rfl := e
    exact h
  · intro h
    exact ⟨x, rfl, h⟩
/-- check_deck: deck -/
def r_check_deck_x : DS := (dIf (dBNot (dTru (dCall T_is_deck (dACons (dVar 0) dANil)))) (dRaise "NoDeck") dNext)
/-- check_hand: hand -/
def r_check_hand_x : DS := (dIf (dBNot (dTru (dCall T_is_hand (dACons (dVar 0) dANil)))) (dRaise "NoHand") dNext)
/-- check_card: card -/
def r_check_card_x : DS := (dIf (dBNot (dTru (dCall T_is_card (dACons (dVar 0) dANil)))) (dRaise "NoCard") dNext)
theorem pu_check_hand_x : ∀ ds R E, T_check_hand_x ds R E → r_check_hand_x (fun x _ => E x) (Ends0 R) (rho0 1 ds) := by
  rintro ds R E ⟨x, rfl, hx, h1, h2⟩
  simp [r_check_hand_x, hx]
  exact ⟨h2, h1⟩
theorem pu_check_deck_x : ∀ ds R E, T_check_deck_x ds R E → r_check_deck_x (fun x _ => E x) (Ends0 R) (rho0 1 ds) := by
  rintro ds R E ⟨x, rfl, hx, h1, h2⟩
  simp [r_check_deck_x, hx]
  exact ⟨h2, h1⟩
theorem pu_check_card_x : ∀ ds R E, T_check_card_x ds R E → r_check_card_x (fun x _ => E x) (Ends0 R) (rho0 1 ds) := by
  rintro ds R E ⟨x, rfl, hx, h1, h2⟩
  simp [r_check_card_x, hx]
  exact ⟨h2, h1⟩
/-- a deck of numbers -/
theorem deck_ints {x : D} (h : isDeckD x = true) : ∃ ns : List Int, x = .tup (ns.map D.int) ∧ ns.length ≤ 52 ∧ (∀ n ∈ ns, 0 ≤ n ∧ n ≤ 51) ∧ ns.Nodup := by
  cases x with
  | tup xs =>
    unfold isDeckD at h
    simp only [Bool.and_eq_true, decide_eq_true_eq] at h
    obtain ⟨⟨h1, h2⟩, h3⟩ := h
    have e := cards_ints h2
    generalize hns : xs.map D.toI = ns at e h3
    subst e
    refine ⟨ns, rfl, by simpa using h1, fun z hz => ?_, h3⟩
    have := List.all_eq_true.mp h2 _ (List.mem_map_of_mem hz)
    simpa using this
  | _ => cases h
theorem isDeck_ti {ns : List Int} (h1 : ns.length ≤ 52) (h2 : ∀ n ∈ ns, 0 ≤ n ∧ n ≤ 51) (h3 : ns.Nodup) : isDeckD (.tup (ns.map D.int)) = true := by
  unfold isDeckD
  simp only [toI_map, Bool.and_eq_true, decide_eq_true_eq, List.all_eq_true]
  refine ⟨⟨by simpa using h1, fun y hy => ?_⟩, h3⟩
  obtain ⟨i, hi, rfl⟩ := List.mem_map.mp hy
  have := h2 i hi
  simp [this]
theorem okT_of {x : D} (h : x.tyN.isSome = true) (h2 : itemsD x = []) : okT x := ⟨h, fun xs e => by subst e; simp at h2; subst h2; exact ⟨by simp, fun y hy => by cases hy⟩⟩
theorem inR_ex {a b : Int} {x : D} (h : inR a b x = true) : ∃ i : Int, x = .int i ∧ a ≤ i ∧ i ≤ b := by
  cases x with
  | int i => simp at h; exact ⟨i, rfl, h⟩
  | _ => cases h
@[simp] theorem inR_non {a b : Int} : inR a b .non = false := rfl
@[simp] theorem inR_bl {a b : Int} {c : Bool} : inR a b (.bl c) = false := rfl
@[simp] theorem inR_str {a b : Int} {c : Str} : inR a b (.str c) = false := rfl
@[simp] theorem inR_tup {a b : Int} {c : List D} : inR a b (.tup c) = false := rfl
@[simp] theorem inR_lst {a b : Int} {c : List D} : inR a b (.lst c) = false := rfl
@[simp] theorem inR_dct {a b : Int} {ks : List Key} {c : List D} : inR a b (.dct ks c) = false := rfl
theorem okT_tup {xs : List D} (h : xs.length ≤ 1000) (h2 : ∀ y ∈ xs, y.tyN.isSome = true) : okT (.tup xs) := ⟨rfl, fun ys e => by cases e; exact ⟨h, h2⟩⟩
@[simp] theorem okT_non : okT .non := ⟨rfl, fun xs h => by cases h⟩
@[simp] theorem okT_bl {b : Bool} : okT (.bl b) := ⟨rfl, fun xs h => by cases h⟩
@[simp] theorem okT_i {i : Int} : okT (.int i) := ⟨rfl, fun xs h => by cases h⟩
@[simp] theorem okT_str {x : Str} : okT (.str x) := ⟨rfl, fun xs h => by cases h⟩
@[simp] theorem okT_lst {x : List D} : okT (.lst x) := ⟨rfl, fun xs h => by cases h⟩
@[simp] theorem okT_dct {ks : List Key} {x : List D} : okT (.dct ks x) := ⟨rfl, fun xs h => by cases h⟩
end DL
/-! DL48: what a law's words say of an error -/
namespace DL
open PySem PySem.Spec PyProof.Rows L2
/-- c0 of a call that ends well, else the error's own word -/
def wordT (c0 : Str) (tags : List (Str × Str)) : WSp := fun o R => match o with
  | .inr _ => R (.str c0)
  | .inl x => ∃ t, x.2 = [] ∧ (x.1, t) ∈ tags ∧ R (.str t)
theorem mono_wordT (c0 : Str) (tags : List (Str × Str)) : MonoW (wordT c0 tags) := by
  intro o R R2 hR h
  match o, h with
  | .inr z, h => exact hR _ h
  | .inl x, ⟨t, h1, h2, h3⟩ => exact ⟨t, h1, h2, hR _ h3⟩
theorem wordT_ok {c0 : Str} {tags : List (Str × Str)} {z : D} {R : D → Prop} : wordT c0 tags (.inr z) R = R (.str c0) := rfl
theorem wordT_at {c0 : Str} {tags : List (Str × Str)} {x t : Str} {R : D → Prop} (h : (x, t) ∈ tags) (h2 : tags.all (fun p => decide (p.1 = x → p.2 = t)) = true) : wordT c0 tags (.inl (x, [])) R = R (.str t) := by
  apply propext
  constructor
  · rintro ⟨t', _, h3, h4⟩
    have := List.all_eq_true.mp h2 _ h3
    have := (of_decide_eq_true this) rfl
    rw [← show t' = t from this]; exact h4
  · intro h4
    exact ⟨t, rfl, h, h4⟩
@[simp] theorem lt_sz_1 : (1 < sizeLine) = True := eq_true (lst_lt (by decide))
@[simp] theorem lt_sz_2 : (2 < sizeLine) = True := eq_true (lst_lt (by decide))
@[simp] theorem lt_sz_3 : (3 < sizeLine) = True := eq_true (lst_lt (by decide))
@[simp] theorem lt_sz_4 : (4 < sizeLine) = True := eq_true (lst_lt (by decide))
@[simp] theorem lt_sz_5 : (5 < sizeLine) = True := eq_true (lst_lt (by decide))
@[simp] theorem lt_sz_6 : (6 < sizeLine) = True := eq_true (lst_lt (by decide))
@[simp] theorem lt_sz_7 : (7 < sizeLine) = True := eq_true (lst_lt (by decide))
@[simp] theorem lt_sz_8 : (8 < sizeLine) = True := eq_true (lst_lt (by decide))
@[simp] theorem lt_sz_9 : (9 < sizeLine) = True := eq_true (lst_lt (by decide))
@[simp] theorem lt_sz_10 : (10 < sizeLine) = True := eq_true (lst_lt (by decide))
@[simp] theorem lt_sz_11 : (11 < sizeLine) = True := eq_true (lst_lt (by decide))
@[simp] theorem lt_sz_12 : (12 < sizeLine) = True := eq_true (lst_lt (by decide))
@[simp] theorem lt_sz_13 : (13 < sizeLine) = True := eq_true (lst_lt (by decide))
@[simp] theorem lt_sz_14 : (14 < sizeLine) = True := eq_true (lst_lt (by decide))
@[simp] theorem lt_sz_15 : (15 < sizeLine) = True := eq_true (lst_lt (by decide))
@[simp] theorem lt_sz_16 : (16 < sizeLine) = True := eq_true (lst_lt (by decide))
@[simp] theorem lt_sz_17 : (17 < sizeLine) = True := eq_true (lst_lt (by decide))
@[simp] theorem lt_sz_18 : (18 < sizeLine) = True := eq_true (lst_lt (by decide))
@[simp] theorem lt_sz_19 : (19 < sizeLine) = True := eq_true (lst_lt (by decide))
@[simp] theorem lt_sz_20 : (20 < sizeLine) = True := eq_true (lst_lt (by decide))
@[simp] theorem sz_15 : (15 ≤ sizeLine) = True := sz_lit (by decide)
@[simp] theorem sz_17 : (17 ≤ sizeLine) = True := sz_lit (by decide)
@[simp] theorem sz_18 : (18 ≤ sizeLine) = True := sz_lit (by decide)
@[simp] theorem sz_19 : (19 ≤ sizeLine) = True := sz_lit (by decide)
@[simp] theorem sz_21 : (21 ≤ sizeLine) = True := sz_lit (by decide)
@[simp] theorem sz_22 : (22 ≤ sizeLine) = True := sz_lit (by decide)
@[simp] theorem sz_23 : (23 ≤ sizeLine) = True := sz_lit (by decide)
@[simp] theorem sz_24 : (24 ≤ sizeLine) = True := sz_lit (by decide)
@[simp] theorem sz_26 : (26 ≤ sizeLine) = True := sz_lit (by decide)
@[simp] theorem sz_27 : (27 ≤ sizeLine) = True := sz_lit (by decide)
@[simp] theorem sz_32 : (32 ≤ sizeLine) = True := sz_lit (by decide)
@[simp] theorem sz_52 : (52 ≤ sizeLine) = True := sz_lit (by decide)
@[simp] theorem sz_64 : (64 ≤ sizeLine) = True := sz_lit (by decide)
@[simp] theorem sz_81 : (81 ≤ sizeLine) = True := sz_lit (by decide)
/-! ### the tables of code objects, looked up -/
def tabC (K : PySem.W.Frag) (x : Str) : Addr := ((PySem.W.tabIn K x).getD (0, 0)).1
def tabP (K : PySem.W.Frag) (x : Str) : Addr := ((PySem.W.tabIn K x).getD (0, 0)).2
theorem tab_some {K : PySem.W.Frag} {x : Str} (h : (PySem.W.tabIn K x).isSome = true) : PySem.W.tabIn K x = some (tabC K x, tabP K x) := by
  unfold tabC tabP
  obtain ⟨p, e⟩ := Option.isSome_iff_exists.mp h
  rw [e]; rfl
theorem look_none {K : PySem.W.Frag} {a : Addr} (h : (K.lookup a).isNone = true) : K.lookup a = none := Option.isNone_iff_eq_none.mp h
/-- plain data are like themselves -/
theorem eq_same {x : D} (h : x.nice = true) (h2 : x.dep ≤ 64) : eqOk x x ∧ D.eqb x x = true := ⟨.inr ⟨nice_plain x h, nice_plain x h, h2, h2⟩, eqb_self x h⟩
theorem okT_tup_s {xs : List D} (h : xs.length ≤ 1000) (h2 : xs.all (fun y => y.tyN.isSome) = true) : okT (.tup xs) := okT_tup h fun y hy => List.all_eq_true.mp h2 y hy
end DL
/-! DL49: defs as values, lists joined into fresh ones -/
namespace DL
open PySem PySem.Spec PyProof.Rows L2
@[simp] theorem ofString_inj {a b : String} : (Str.ofString a = Str.ofString b) ↔ a = b := by
  constructor
  · intro h
    rw [Str.ofString_eq_toList, Str.ofString_eq_toList] at h
    have h1 : (a.toList.map Char.toNat).toArray = (b.toList.map Char.toNat).toArray := congrArg Str.cps h
    have h2 : a.toList.map Char.toNat = b.toList.map Char.toNat := by simpa using h1
    have h3 : a.toList = b.toList := by
      refine List.map_inj_right (f := Char.toNat) (fun x y e => ?_) |>.mp h2
      exact Char.toNat_inj.mp e
    exact String.toList_inj.mp h3
  · rintro rfl; rfl
/-! ### defs as values -/
/-- a def of the module, found by its name -/
def FnIs (K : PySem.W.Frag) (mg : Str → Option Value) (x : Str) : Prop := ∃ a : Addr, PySem.W.nsIn K mainGlobals x = some (some (.ref a)) ∧ mg x = some (.ref a)
theorem fnIs_mk {K : PySem.W.Frag} {mg : Str → Option Value} {h : Heap} {x : Str} {a : Addr} (X : K.In h) (G : h.Ns mainGlobals mg) (e : PySem.W.nsIn K mainGlobals x = some (some (.ref a))) : FnIs K mg x := ⟨a, e, PySem.W.mg_of X G e⟩
/-- defs that a local name may hold -/
structure CanF (P : Program) (w : World) (K : PySem.W.Frag) (mg : Str → Option Value) (base : Heap) (j : Nat) (A : Around) (x : Str) (T : TSp) : Prop where
  mono : MonoT T
  is : FnIs K mg x
  ex : ∃ (γ : Bool) (k : Nat) (ps : List Str), k ≤ j ∧ GdB γ A ∧ Can γ P w K mg base k x ps (spP K T)
abbrev CansF (P : Program) (w : World) (K : PySem.W.Frag) (mg : Str → Option Value) (base : Heap) (j : Nat) (A : Around) (cs : List (Str × TSp)) : Prop := ∀ p ∈ cs, CanF P w K mg base j A p.1 p.2
section
variable {P : Program} {w : World} {K : PySem.W.Frag} {mg : Str → Option Value} {base : Heap} {j k : Nat} {A : Around} {x : Str} {T : TSp} {cs : List (Str × TSp)} {γ : Bool} {ps : List Str}
theorem cansF_nil : CansF P w K mg base j A [] := fun p hp => by cases hp
theorem cansF_cons (c : Can γ P w K mg base k x ps (spP K T)) (m : MonoT T) (F : FnIs K mg x) (hk : k ≤ j) (hgd : GdB γ A) (r : CansF P w K mg base j A cs) : CansF P w K mg base j A ((x, T) :: cs) := fun p hp => by
  rcases List.mem_cons.mp hp with rfl | hp
  · exact ⟨m, F, γ, k, ps, hk, hgd, c⟩
  · exact r p hp
end
section
variable {X : Cx} {RK : Res → Prop} {W : WX} {j : Nat} {x : Str} {p pos : Pos} {e : Expr} {es : List Expr} {t : TA} {r : DA} {cs : List (Str × TSp)}
theorem de_gf (F : FnIs X.K X.mg x) (hg : Gl X x := by rfl) (hd : (x == ("__debug__" : Str)) = false := by decide) : DE X RK W (.Name x pos) (dC (.fn x)) := by
  obtain ⟨a, h1, h2⟩ := F
  exact de_glob hg h2 (v := .ref a) rfl (fun _ => .fn h1) hd
def tCallF (X : Cx) (W : WX) (i : Nat) (t : TA) : TE := fun σ H Q => ∃ (γ : Bool) (k : Nat) (f : Addr) (fd : FuncData) (ps : List Str) (sp : Sp), σ[i]? = some (some (.ref f)) ∧ FnG γ X.prog X.w X.K X.mg X.base k f fd ps sp ∧ PySem.W.keepIn X.K (.ref f) = true ∧
  Binds X.K fd ps [] ∧ Room k X.A ∧ GdB γ X.A ∧ t σ H fun vs H1 => sp vs H1 Q (WE W σ)
theorem pe_callF {i : Nat} (hN : X.N[i]? = some x) (hv : Vis X.env.scope x) (tk : Takes X W) (ha : PA X (e :: es) t) (hdb : (x == ("__debug__" : Str)) = false := by decide) (hcd : (x == ("__classdict__" : Str)) = false := by decide)
    (he : starEach (e :: es) X.env = (false, eval e X.env) :: starEach es X.env := by rfl) (hpl : (backTo pos (starEach es X.env)).any (·.1) = false := by rfl) : PE X (.Call (.Name x p) (e :: es) [] pos) (tCallF X W i t) := by
  constructor
  intro pins s σ H Q I h
  obtain ⟨γ, k, f, fd, ps, sp, hs, F, hk, hb, hr, hgd, ht⟩ := h
  apply wpAny_Call_Name_kw
  refine thn ((pe_var (pos := p) hN hv hdb hcd).run pins s σ H (fun v H1 => v = .ref f ∧ H1 = H) I ⟨.ref f, hs, rfl, rfl⟩) ?_
  rintro u s1 ⟨v, H1, I1, r1, e1, e2⟩
  subst e1 e2
  cases r1
  apply PySem.W.callWith_K (h₀ := X.base) I1.ok.mod.kin hk _ he hpl
  apply thn (ha.run pos pins s1 σ _ _ I1 ht)
  rintro us s2 ⟨vs, H2, I2, r, q⟩
  exact ⟨I2.kIn, run_G (dvs := []) F hr hgd hb .nil tk I2 r (by rw [List.append_nil]; exact q)⟩
/-- f(..), f a local name that holds one of the defs cs -/
def dCallF (i : Nat) (cs : List (Str × TSp)) (r : DA) : DT := fun E ρ Q => ∃ y T, ρ[i]? = some (.dat (.fn y)) ∧ (y, T) ∈ cs ∧ r E ρ fun ds ρ1 => T ds (fun v => Q v ρ1) (fun x => E x ρ1)
theorem de_cF (i : Nat) (C : CansF X.prog X.w X.K X.mg X.base j X.A cs) (hr : Room j X.A) (tk : Takes X W) (ha : DAs X RK W (e :: es) r) (hN : X.N[i]? = some x := by rfl)
    (hv : Vis X.env.scope x := by first | exact Or.inl rfl | exact Or.inr (Or.inl rfl) | exact Or.inr (Or.inr rfl)) (hdb : (x == ("__debug__" : Str)) = false := by decide) (hcd : (x == ("__classdict__" : Str)) = false := by decide)
    (he : starEach (e :: es) X.env = (false, eval e X.env) :: starEach es X.env := by rfl) (hpl : (backTo pos (starEach es X.env)).any (·.1) = false := by rfl) : DE X RK W (.Call (.Name x p) (e :: es) [] pos) (dCallF i cs r) := pe_weak (pe_callF hN hv tk ha hdb hcd he hpl) (by
  rintro σ H Qh ⟨g, S, ρ, Q, E, R, ⟨y, T, h0, hy, h⟩, hq, hx⟩
  obtain ⟨v, z1, z2⟩ := R.cell i _ h0
  cases z2 with
  | fn z3 =>
    obtain ⟨mono, ⟨a2, z4, z5⟩, γ, k, ps, hk, hgd, c⟩ := C _ hy
    obtain ⟨f, fd, h1, h2, h3, F⟩ := c.ex
    rw [z3] at z4
    cases z4
    rw [h1] at z5
    cases z5
    refine ⟨γ, k, _, fd, ps, _, z1, F, h2, h3, hr.mono hk, hgd, g, S, ρ, _, E, R, h, fun vs H1 S1 ρ1 xs R1 e1 r1 q1 => ?_, hx⟩
    exact call_p R1 r1 q1 (fun v H2 S2 ρ2 z R2 e2 r2 q2 => hq v H2 S2 ρ2 z R2 (e1.trans e2) r2 q2) (hx.up e1) mono)
end
/-! ### lists, fresh -/
section
variable {X : Cx} {RK : Res → Prop} {W : WX} {pos : Pos} {a b c : Expr} {da db : DT} {p : DB} {fa fb : DF}
/-- list + list, fresh -/
def catD (x y : D) (k : List D → Prop) : Prop := match x, y with
  | .lst xs, .lst ys => xs.length + ys.length ≤ sizeLine ∧ k (xs ++ ys)
  | _, _ => False
@[simp] theorem catD_s {xs ys : List D} {k : List D → Prop} : catD (.lst xs) (.lst ys) k = (xs.length + ys.length ≤ sizeLine ∧ k (xs ++ ys)) := rfl
@[simp] def dfCat (da db : DT) : DF := fun E ρ Q => da E ρ fun x ρ1 => db E ρ1 fun y ρ2 => catD x y fun zs => Q zs ρ2
theorem df_cat (ha : DE X RK W a da) (hb : DE X RK W b db) : DFr X RK W (.BinOp a .Add b pos) (dfCat da db) := pe_weak (pe_op op_cat ha hb) (by
  rintro σ H Qh ⟨g, S, ρ, Q, E, R, h, hq, hx⟩
  refine ⟨g, S, ρ, _, E, R, h, fun v H1 S1 ρ1 x R1 e1 r1 q1 => ⟨g, S1, ρ1, _, E, R1, q1, fun u H2 S2 ρ2 y R2 e2 r2 q2 => ?_, hx.up e1⟩, hx⟩
  have r1 := r1.up e2
  unfold catD at q2
  split at q2
  · cases r1 with
    | lst a1 a2 =>
      cases r2 with
      | lst b1 b2 =>
        refine ⟨_, _, _, _, rfl, rfl, R2.sub _ _ a1, R2.sub _ _ b1, by rw [a2.length, b2.length]; exact q2.1, fun p hp => ?_⟩
        obtain ⟨f1, f2, f3, f4⟩ := R2.fresh hp
        exact hq p _ _ S2 ρ2 _ (R2.alloc0 hp) (e1.trans e2) upd_same f2 f1 f4 (a2.append b2) q2.2
  · exact q2.elim)
/-- one of two, fresh -/
@[simp] def dfIf (p : DB) (fa fb : DF) : DF := fun E ρ Q => p E ρ fun b ρ1 => br b (fa E ρ1 Q) (fb E ρ1 Q)
theorem df_if (hc : DTs X RK W c p) (ha : DFr X RK W a fa) (hb : DFr X RK W b fb) : DFr X RK W (.IfExp c a b pos) (dfIf p fa fb) := pe_weak (pe_ifExp hc ha hb) (by
  rintro σ H Qh ⟨g, S, ρ, Q, E, R, h, hq, hx⟩
  refine ⟨g, S, ρ, _, E, R, h, fun t H1 S1 ρ1 R1 e1 q1 => ?_, hx⟩
  cases t with
  | true => rw [if_pos rfl]; exact ⟨g, S1, ρ1, Q, E, R1, q1.1 rfl, fun p xs H2 S2 ρ2 ds R2 e2 h1 h2 h3 h4 r2 q2 => hq p xs H2 S2 ρ2 ds R2 (e1.trans e2) h1 h2 h3 h4 r2 q2, hx.up e1⟩
  | false => rw [if_neg Bool.false_ne_true]; exact ⟨g, S1, ρ1, Q, E, R1, q1.2 rfl, fun p xs H2 S2 ρ2 ds R2 e2 h1 h2 h3 h4 r2 q2 => hq p xs H2 S2 ρ2 ds R2 (e1.trans e2) h1 h2 h3 h4 r2 q2, hx.up e1⟩)
end
end DL
/-! DL50: looks at own lists that do not end their being own -/
namespace DL
open PySem PySem.Spec PyProof.Rows L2
theorem er_bare {K : PySem.W.Frag} {S H : Hp} (sub : Same S H) (nt : NTS S) : ER K (fun _ => True) ⟨H, S, noRes⟩ S H [] [] :=
  ⟨trivial, trivial, sub, fun a o _ e => e, fun a o e => .inl e, Same.refl S, fun a ha => (by cases ha), trivial, rfl, fun i c e => by simp at e, fun i j p q e => by simp [ownAt] at e, nt⟩
/-- x == e, x an own list, which it stays -/
def dCmpO (i : Nat) (f : D → D → (D → Prop) → Prop) (db : DT) : DT := fun E ρ Q => (∃ p ds, ρ[i]? = some (.own p ds)) ∧ db E ρ fun y ρ1 => onOwn ρ1[i]? fun p ds => f (.lst ds) y fun z => onB z fun b => Q (.bl b) ρ1
section
variable {X : Cx} {RK : Res → Prop} {W : WX} {pos p1 : Pos} {b : Expr} {db : DT} {f : D → D → (D → Prop) → Prop} {r : R2} {op : CmpOp} {x : Str}
theorem lift_cmpO (hf : OpD X.K r f) (i : Nat) : ∀ σ H Q, liftE X.K RK W (dCmpO i f db) σ H Q → tOp r (tVar i) (liftE X.K RK W db) σ H Q := by
  rintro σ H Qh ⟨g, S, ρ, Q, E, R, ⟨⟨p, ds, h0⟩, h⟩, hq, hx⟩
  obtain ⟨z1, _⟩ := R.cell i _ h0
  refine ⟨_, z1, g, S, ρ, _, E, R, h, fun u H1 S1 ρ1 y R1 e1 r1 q1 => ?_, hx⟩
  unfold onOwn at q1
  split at q1
  · rename_i p' ds' w
    obtain ⟨y1, y2, y3, xs, y4, y5⟩ := R1.cell i _ w
    rw [z1] at y1
    cases y1
    have e2 : Same S1 (upd S1 p (.lst xs)) := same_upd y2
    have sub : Same (upd S1 p (.lst xs)) H1 := fun a o q => by
      by_cases hb : a = p
      · subst hb; rw [upd_same] at q; cases q; exact y4
      · rw [upd_ne hb] at q; exact R1.sub a o q
    refine hf (fun _ => True) _ _ H1 [] [] _ _ _ _ _ Qh (er_bare sub (R1.nt.upd (by intro ps z; cases z))) (.lst upd_same (y5.up e2)) (r1.up e2) q1 (fun v H2 S2 z R2 e3 r2 q2 => ?_)
    unfold onB at q2
    split at q2
    · cases r2
      have s1 : Same H1 H2 := fun a o e => R2.fr a o (by intro z; cases z) e
      exact hq _ H2 S1 ρ1 _ (er_post R1 s1 (Same.refl S1) (R1.sub.trans s1) (fun a o e => .inl e) R1.nt) e1 (.bl _) q2
    · exact q2.elim
  · exact q1.elim
theorem de_cmpO (i : Nat) (ho : OpR X (compareOp op) r) (hf : OpD X.K r f) (hb : DE X RK W b db) (hN : X.N[i]? = some x := by rfl) (hv : Vis X.env.scope x := by first | exact Or.inl rfl | exact Or.inr (Or.inl rfl) | exact Or.inr (Or.inr rfl)) (hd : (x == ("__debug__" : Str)) = false := by decide)
    (hcd : (x == ("__classdict__" : Str)) = false := by decide) (hm : behindInMarks op b = false := by rfl) : DE X RK W (.Compare (.Name x p1) [op] [b] pos) (dCmpO i f db) :=
  pe_weak (pe_cmpR ho (pe_var hN hv hd hcd) hb hm) (lift_cmpO hf i)
theorem dt_cmpO (i : Nat) (ho : OpR X (compareOp op) r) (hf : OpD X.K r f) (hb : DE X RK W b db) (hN : X.N[i]? = some x := by rfl) (hv : Vis X.env.scope x := by first | exact Or.inl rfl | exact Or.inr (Or.inl rfl) | exact Or.inr (Or.inr rfl)) (hd : (x == ("__debug__" : Str)) = false := by decide)
    (hcd : (x == ("__classdict__" : Str)) = false := by decide) (hm : behindInMarks op b = false := by rfl) : DTs X RK W (.Compare (.Name x p1) [op] [b] pos) (dTst (dCmpO i f db)) :=
  pt_weak (pt_cmpR ho (pe_var hN hv hd hcd) hb hm) fun σ H Q h => lift_cmpO hf i σ H _ (lift_tst σ H Q h)
end
@[simp] theorem dCmpO_s {i : Nat} {f : D → D → (D → Prop) → Prop} {db : DT} {E : EK} {ρ : Rho} {Q : D → Rho → Prop} : dCmpO i f db E ρ Q = ((∃ p ds, ρ[i]? = some (.own p ds)) ∧ db E ρ fun y ρ1 => onOwn ρ1[i]? fun p ds => f (.lst ds) y fun z => onB z fun b => Q (.bl b) ρ1) := rfl
theorem rng_get2 (a b : Int) : rng a b = (List.range (b - a).toNat).map fun k : Nat => a + (k : Int) := by unfold rng; rfl
theorem rng_mem2 {a b i : Int} : i ∈ rng a b ↔ a ≤ i ∧ i < b := by
  rw [rng_get2, List.mem_map]
  constructor
  · rintro ⟨k, hk, rfl⟩
    have := List.mem_range.mp hk
    omega
  · rintro ⟨h1, h2⟩
    exact ⟨(i - a).toNat, List.mem_range.mpr (by omega), by omega⟩
theorem rng_nodup2 (a b : Int) : (rng a b).Nodup := by
  rw [rng_get2]
  unfold List.Nodup
  rw [List.pairwise_map]
  refine List.Pairwise.imp ?_ (List.nodup_range (n := (b - a).toNat))
  intro x y h z
  exact h (by omega)
theorem enumD_all (xs : List D) : enumD xs = (List.range xs.length).map fun i : Nat => .tup [.int i, xs.getD i .non] := by
  apply List.ext_getElem?
  intro i
  by_cases h : i < xs.length
  · rw [enumD_get (List.getElem?_eq_getElem h), List.getElem?_map, List.getElem?_range h]
    simp [h]
  · rw [List.getElem?_eq_none (by rw [enumD_len]; omega), List.getElem?_eq_none (by simp; omega)]
end DL
namespace DL
open PySem PySem.Spec PyProof.Rows L2
/-! ### dealing down and under -/
def rot {α : Type} (xs : List α) (b : Nat) : List α := xs.drop (b % xs.length) ++ xs.take (b % xs.length)
def dealt {α : Type} : Nat → List α → Nat → List α
  | 0, _, _ => []
  | _ + 1, [], _ => []
  | f + 1, x :: xs, b => x :: dealt f (rot xs b) b
def dealtBy {α : Type} (xs : List α) (a b : Nat) : List α := dealt xs.length (rot xs a) b
def down {α : Type} (xs : List α) : List α := dealtBy xs 0 1
/-- the places in the order of dealing -/
def dp (n : Nat) : List Nat := down (List.range n)
def laid (ns : List Int) : List Int := (List.range ns.length).map fun j => ns.getD ((dp ns.length).idxOf j) 0
section
variable {α β : Type}
@[simp] theorem rot_len (xs : List α) (b : Nat) : (rot xs b).length = xs.length := by
  unfold rot
  rw [List.length_append, List.length_drop, List.length_take]
  by_cases h : xs.length = 0
  · rw [h]; simp
  · have := Nat.mod_lt b (Nat.pos_of_ne_zero h)
    omega
theorem rot_map (f : α → β) (xs : List α) (b : Nat) : rot (xs.map f) b = (rot xs b).map f := by
  unfold rot
  rw [List.map_append, List.map_drop, List.map_take, List.length_map]
theorem rot_perm (xs : List α) (b : Nat) : (rot xs b).Perm xs := by
  unfold rot
  refine List.perm_append_comm.trans ?_
  rw [List.take_append_drop]
@[simp] theorem rot_nil (b : Nat) : rot ([] : List α) b = [] := by unfold rot; simp
@[simp] theorem rot_0 (xs : List α) : rot xs 0 = xs := by unfold rot; simp
theorem rot_get (xs : List α) (b i : Nat) (h : i < xs.length) : (rot xs b)[i]? = xs[(i + b) % xs.length]? := by
  unfold rot
  have hb := Nat.mod_lt b (show 0 < xs.length by omega)
  have e : (i + b) % xs.length = (i + b % xs.length) % xs.length := by rw [Nat.add_mod_mod]
  rw [e]
  generalize b % xs.length = r at *
  rw [List.getElem?_append, List.length_drop]
  split
  · rw [List.getElem?_drop, Nat.mod_eq_of_lt (by omega), Nat.add_comm]
  · rw [List.getElem?_take, if_pos (by omega), Nat.mod_eq_sub_mod (by omega), Nat.mod_eq_of_lt (by omega)]
    congr 1; omega
theorem rot_rot (xs : List α) (a b : Nat) : rot (rot xs a) b = rot xs (a + b) := by
  apply List.ext_getElem?
  intro i
  by_cases h : i < xs.length
  · rw [rot_get _ _ _ (by simpa using h), rot_get _ _ _ h, rot_len, rot_get _ _ _ (Nat.mod_lt _ (by omega)), Nat.mod_add_mod]
    congr 2; omega
  · rw [List.getElem?_eq_none (by simp; omega), List.getElem?_eq_none (by simp; omega)]
theorem rot_1 {xs : List α} : xs.drop 1 ++ xs.take 1 = rot xs 1 := by
  unfold rot
  match xs with
  | [] => simp
  | [x] => simp
  | x :: y :: r =>
    rw [Nat.mod_eq_of_lt (by simp)]
theorem dealt_map (f : α → β) (b : Nat) : ∀ (n : Nat) (xs : List α), dealt n (xs.map f) b = (dealt n xs b).map f
  | 0, _ => rfl
  | _ + 1, [] => rfl
  | n + 1, x :: xs => by
    rw [List.map_cons]
    show f x :: dealt n (rot (xs.map f) b) b = _
    rw [rot_map, dealt_map f b n]; rfl
theorem dealt_perm (b : Nat) : ∀ (n : Nat) (xs : List α), xs.length ≤ n → (dealt n xs b).Perm xs
  | 0, [], _ => List.Perm.refl _
  | _ + 1, [], _ => List.Perm.refl _
  | n + 1, x :: xs, h => List.Perm.cons x ((dealt_perm b n (rot xs b) (by simp at h ⊢; omega)).trans (rot_perm xs b))
theorem dealtBy_map (f : α → β) (xs : List α) (a b : Nat) : dealtBy (xs.map f) a b = (dealtBy xs a b).map f := by
  unfold dealtBy
  rw [rot_map, List.length_map, dealt_map]
theorem dealtBy_perm (xs : List α) (a b : Nat) : (dealtBy xs a b).Perm xs := (dealt_perm b _ _ (by simp)).trans (rot_perm xs a)
theorem dealt_0 : ∀ (n : Nat) (xs : List α), xs.length ≤ n → dealt n xs 0 = xs
  | 0, [], _ => rfl
  | _ + 1, [], _ => rfl
  | n + 1, x :: xs, h => by
    show x :: dealt n (rot xs 0) 0 = _
    rw [rot_0, dealt_0 n xs (by simpa using h)]
@[simp] theorem dealtBy_0 (xs : List α) : dealtBy xs 0 0 = xs := by unfold dealtBy; rw [rot_0]; exact dealt_0 _ _ (Nat.le_refl _)
theorem down_map (f : α → β) (xs : List α) : down (xs.map f) = (down xs).map f := dealtBy_map f xs 0 1
theorem down_perm (xs : List α) : (down xs).Perm xs := dealtBy_perm xs 0 1
@[simp] theorem dealtBy_len (xs : List α) (a b : Nat) : (dealtBy xs a b).length = xs.length := (dealtBy_perm xs a b).length_eq
@[simp] theorem down_len (xs : List α) : (down xs).length = xs.length := (down_perm xs).length_eq
theorem dp_perm (n : Nat) : (dp n).Perm (List.range n) := down_perm _
@[simp] theorem dp_len (n : Nat) : (dp n).length = n := by rw [(dp_perm n).length_eq, List.length_range]
theorem dp_nodup (n : Nat) : (dp n).Nodup := (dp_perm n).nodup_iff.mpr List.nodup_range
theorem dp_lt {n j : Nat} (h : j ∈ dp n) : j < n := List.mem_range.mp ((dp_perm n).mem_iff.mp h)
theorem dp_mem {n j : Nat} (h : j < n) : j ∈ dp n := (dp_perm n).mem_iff.mpr (List.mem_range.mpr h)
end
theorem getD_self (ns : List Int) : (List.range ns.length).map (fun j => ns.getD j 0) = ns := by
  apply List.ext_getElem?
  intro i
  by_cases h : i < ns.length
  · rw [List.getElem?_map, List.getElem?_range h, List.getElem?_eq_getElem h]
    simp [h]
  · rw [List.getElem?_eq_none (by simp; omega), List.getElem?_eq_none (by omega)]
theorem down_get (ns : List Int) : down ns = (dp ns.length).map fun j => ns.getD j 0 := by
  conv => lhs; rw [← getD_self ns]
  rw [down_map]; rfl
@[simp] theorem laid_len (ns : List Int) : (laid ns).length = ns.length := by unfold laid; simp
theorem laid_get (ns : List Int) (j : Nat) (h : j < ns.length) : (laid ns).getD j 0 = ns.getD ((dp ns.length).idxOf j) 0 := by
  unfold laid
  rw [List.getD_eq_getElem?_getD, List.getElem?_map, List.getElem?_range h]; rfl
theorem down_laid (ns : List Int) : down (laid ns) = ns := by
  rw [down_get, laid_len]
  apply List.ext_getElem?
  intro i
  by_cases h : i < ns.length
  · have h' : i < (dp ns.length).length := by simpa using h
    rw [List.getElem?_map, List.getElem?_eq_getElem h', Option.map_some, laid_get _ _ (dp_lt (List.getElem_mem h')), (dp_nodup ns.length).idxOf_getElem i h', List.getElem?_eq_getElem h]
    simp [h]
  · rw [List.getElem?_eq_none (by simp; omega), List.getElem?_eq_none (by omega)]
theorem laid_down (ns : List Int) : laid (down ns) = ns := by
  unfold laid
  apply List.ext_getElem?
  intro i
  by_cases h : i < ns.length
  · rw [List.getElem?_map, List.getElem?_range (by simpa using h), Option.map_some, List.getElem?_eq_getElem h]
    have hm := dp_mem h
    have hi : (dp ns.length).idxOf i < (dp ns.length).length := List.idxOf_lt_length_of_mem hm
    rw [down_len, down_get, List.getD_eq_getElem?_getD, List.getElem?_map, List.getElem?_eq_getElem hi, Option.map_some, List.getElem_idxOf]
    simp [h]
  · rw [List.getElem?_eq_none (by simp; omega), List.getElem?_eq_none (by omega)]
theorem laid_perm (ns : List Int) : (laid ns).Perm ns := by
  have := down_perm (laid ns)
  rw [down_laid] at this
  exact this.symm
/-! ### what the defs promise -/
def T_under_size : TSp := fun ds R E => ∃ x, ds = [x] ∧ x.tyN.isSome = true ∧ (inR 1 20 x = true → R .non) ∧ (inR 1 20 x = false → E ("NoSize", []))
def T_put_under : TSp := fun ds R _ => ∃ (xs : List D) (m : Int), ds = [.lst xs, .int m] ∧ (xs.length ≤ 1000 ∧ 0 ≤ m ∧ m ≤ 1000) ∧ R (.lst (rot xs m.toNat))
def T_dealt_by : TSp := fun ds R _ => ∃ (x : D) (a b : Int), ds = [x, .int a, .int b] ∧ (isSeqD x = true ∧ (itemsD x).length ≤ 1000 ∧ (0 ≤ a ∧ a ≤ 1000) ∧ (0 ≤ b ∧ b ≤ 1000)) ∧ R (.lst (dealtBy (itemsD x) a.toNat b.toNat))
def T_raw_down : TSp := fun ds R _ => ∃ (xs : List D), ds = [.tup xs] ∧ xs.length ≤ 1000 ∧ R (.tup (down xs))
def T_down_under : TSp := fun ds R E => ∃ x, ds = [x] ∧ okT x ∧ (isDeckD x = false → E ("NoDeck", [])) ∧ (isDeckD x = true → R (.tup (down (itemsD x))))
def T_last_down : TSp := fun ds R E => ∃ x, ds = [x] ∧ x.tyN.isSome = true ∧ (inR 1 20 x = false → E ("NoSize", [])) ∧ (inR 1 20 x = true → R (.int ((dp x.toI.toNat).getLastD 0 : Nat)))
def T_deck_for : TSp := fun ds R E => ∃ x, ds = [x] ∧ okT x ∧ (isDeckD x = false → E ("NoDeck", [])) ∧ (isDeckD x = true → R (ti (laid (ints' (itemsD x)))))
def T_every_nth : TSp := fun ds R E => ∃ x y, ds = [x, y] ∧ (okT x ∧ y.tyN.isSome = true) ∧ (isDeckD x = false → E ("NoDeck", [])) ∧ (isDeckD x = true → inR 1 60 y = false → E ("NoNumber", [])) ∧ (isDeckD x = true → inR 1 60 y = true → R (.tup (dealtBy (itemsD x) (y.toI.toNat - 1) (y.toI.toNat - 1))))
theorem mono_under_size : MonoT T_under_size := fun ds R R2 E E2 hR hE x => (let ⟨v1, v2⟩ := x; ⟨v1, (let ⟨v3, v4, v5, v6⟩ := v2; ⟨v3, v4, (fun v7 => hR _ (v5 v7)), (fun v8 => hE _ (v6 v8))⟩)⟩)
theorem len_under_size : ∀ ds R E, T_under_size ds R E → ds.length = 1 := by rintro ds R E ⟨_, rfl, _⟩; rfl
theorem mono_put_under : MonoT T_put_under := fun ds R R2 E E2 hR hE x => (let ⟨v1, v2, v3⟩ := x; ⟨v1, v2, (let ⟨v4, v5, v6⟩ := v3; ⟨v4, (let ⟨v7, v8, v9⟩ := v5; ⟨v7, v8, v9⟩), hR _ v6⟩)⟩)
theorem len_put_under : ∀ ds R E, T_put_under ds R E → ds.length = 2 := by rintro ds R E ⟨_, _, rfl, _⟩; rfl
theorem mono_dealt_by : MonoT T_dealt_by := fun ds R R2 E E2 hR hE x => (let ⟨v1, v2, v3, v4⟩ := x; ⟨v1, v2, v3, (let ⟨v5, v6, v7⟩ := v4; ⟨v5, (let ⟨v8, v9, v10, v11⟩ := v6; ⟨v8, v9, (let ⟨v12, v13⟩ := v10; ⟨v12, v13⟩), (let ⟨v14, v15⟩ := v11; ⟨v14, v15⟩)⟩), hR _ v7⟩)⟩)
theorem len_dealt_by : ∀ ds R E, T_dealt_by ds R E → ds.length = 3 := by rintro ds R E ⟨_, _, _, rfl, _⟩; rfl
theorem mono_raw_down : MonoT T_raw_down := fun ds R R2 E E2 hR hE x => (let ⟨v1, v2⟩ := x; ⟨v1, (let ⟨v3, v4, v5⟩ := v2; ⟨v3, v4, hR _ v5⟩)⟩)
theorem len_raw_down : ∀ ds R E, T_raw_down ds R E → ds.length = 1 := by rintro ds R E ⟨_, rfl, _⟩; rfl
theorem mono_down_under : MonoT T_down_under := fun ds R R2 E E2 hR hE x => (let ⟨v1, v2⟩ := x; ⟨v1, (let ⟨v3, v4, v5, v6⟩ := v2; ⟨v3, v4, (fun v7 => hE _ (v5 v7)), (fun v8 => hR _ (v6 v8))⟩)⟩)
theorem len_down_under : ∀ ds R E, T_down_under ds R E → ds.length = 1 := by rintro ds R E ⟨_, rfl, _⟩; rfl
theorem mono_last_down : MonoT T_last_down := fun ds R R2 E E2 hR hE x => (let ⟨v1, v2⟩ := x; ⟨v1, (let ⟨v3, v4, v5, v6⟩ := v2; ⟨v3, v4, (fun v7 => hE _ (v5 v7)), (fun v8 => hR _ (v6 v8))⟩)⟩)
theorem len_last_down : ∀ ds R E, T_last_down ds R E → ds.length = 1 := by rintro ds R E ⟨_, rfl, _⟩; rfl
theorem mono_deck_for : MonoT T_deck_for := fun ds R R2 E E2 hR hE x => (let ⟨v1, v2⟩ := x; ⟨v1, (let ⟨v3, v4, v5, v6⟩ := v2; ⟨v3, v4, (fun v7 => hE _ (v5 v7)), (fun v8 => hR _ (v6 v8))⟩)⟩)
theorem len_deck_for : ∀ ds R E, T_deck_for ds R E → ds.length = 1 := by rintro ds R E ⟨_, rfl, _⟩; rfl
theorem mono_every_nth : MonoT T_every_nth := fun ds R R2 E E2 hR hE x => (let ⟨v1, v2, v3⟩ := x; ⟨v1, v2, (let ⟨v4, v5, v6, v7, v8⟩ := v3; ⟨v4, (let ⟨v9, v10⟩ := v5; ⟨v9, v10⟩), (fun v11 => hE _ (v6 v11)), (fun v12 v13 => hE _ (v7 v12 v13)), (fun v14 v15 => hR _ (v8 v14 v15))⟩)⟩)
theorem len_every_nth : ∀ ds R E, T_every_nth ds R E → ds.length = 2 := by rintro ds R E ⟨_, _, rfl, _⟩; rfl
@[simp] theorem T_under_size_s {x : D} {R : D → Prop} {E : Exn → Prop} : T_under_size [x] R E = (x.tyN.isSome = true ∧ (inR 1 20 x = true → R .non) ∧ (inR 1 20 x = false → E ("NoSize", []))) := by
  apply propext
  constructor
  · rintro ⟨_, e, h⟩
    simp only [List.cons.injEq, D.tup.injEq, D.lst.injEq, D.int.injEq, D.bl.injEq, D.str.injEq, and_true] at e
    obtain rfl := e
    exact h
  · intro h
    exact ⟨x, rfl, h⟩
@[simp] theorem T_put_under_s {xs : List D} {m : Int} {R : D → Prop} {E : Exn → Prop} : T_put_under [.lst xs, .int m] R E = ((xs.length ≤ 1000 ∧ 0 ≤ m ∧ m ≤ 1000) ∧ R (.lst (rot xs m.toNat))) := by
  apply propext
  constructor
  · rintro ⟨_, _, e, h⟩
    simp only [List.cons.injEq, D.tup.injEq, D.lst.injEq, D.int.injEq, D.bl.injEq, D.str.injEq, and_true] at e
    obtain ⟨rfl, rfl⟩ := e
    exact h
  · intro h
    exact ⟨xs, m, rfl, h⟩
@[simp] theorem T_dealt_by_s {x : D} {a : Int} {b : Int} {R : D → Prop} {E : Exn → Prop} : T_dealt_by [x, .int a, .int b] R E = ((isSeqD x = true ∧ (itemsD x).length ≤ 1000 ∧ (0 ≤ a ∧ a ≤ 1000) ∧ (0 ≤ b ∧ b ≤ 1000)) ∧ R (.lst (dealtBy (itemsD x) a.toNat b.toNat))) := by
  apply propext
  constructor
  · rintro ⟨_, _, _, e, h⟩
    simp only [List.cons.injEq, D.tup.injEq, D.lst.injEq, D.int.injEq, D.bl.injEq, D.str.injEq, and_true] at e
    obtain ⟨rfl, rfl, rfl⟩ := e
    exact h
  · intro h
    exact ⟨x, a, b, rfl, h⟩
@[simp] theorem T_raw_down_s {xs : List D} {R : D → Prop} {E : Exn → Prop} : T_raw_down [.tup xs] R E = (xs.length ≤ 1000 ∧ R (.tup (down xs))) := by
  apply propext
  constructor
  · rintro ⟨_, e, h⟩
    simp only [List.cons.injEq, D.tup.injEq, D.lst.injEq, D.int.injEq, D.bl.injEq, D.str.injEq, and_true] at e
    obtain rfl := e
    exact h
  · intro h
    exact ⟨xs, rfl, h⟩
@[simp] theorem T_down_under_s {x : D} {R : D → Prop} {E : Exn → Prop} : T_down_under [x] R E = (okT x ∧ (isDeckD x = false → E ("NoDeck", [])) ∧ (isDeckD x = true → R (.tup (down (itemsD x))))) := by
  apply propext
  constructor
  · rintro ⟨_, e, h⟩
    simp only [List.cons.injEq, D.tup.injEq, D.lst.injEq, D.int.injEq, D.bl.injEq, D.str.injEq, and_true] at e
    obtain rfl := e
    exact h
  · intro h
    exact ⟨x, rfl, h⟩
@[simp] theorem T_last_down_s {x : D} {R : D → Prop} {E : Exn → Prop} : T_last_down [x] R E = (x.tyN.isSome = true ∧ (inR 1 20 x = false → E ("NoSize", [])) ∧ (inR 1 20 x = true → R (.int ((dp x.toI.toNat).getLastD 0 : Nat)))) := by
  apply propext
  constructor
  · rintro ⟨_, e, h⟩
    simp only [List.cons.injEq, D.tup.injEq, D.lst.injEq, D.int.injEq, D.bl.injEq, D.str.injEq, and_true] at e
    obtain rfl := e
    exact h
  · intro h
    exact ⟨x, rfl, h⟩
@[simp] theorem T_deck_for_s {x : D} {R : D → Prop} {E : Exn → Prop} : T_deck_for [x] R E = (okT x ∧ (isDeckD x = false → E ("NoDeck", [])) ∧ (isDeckD x = true → R (ti (laid (ints' (itemsD x)))))) := by
  apply propext
  constructor
  · rintro ⟨_, e, h⟩
    simp only [List.cons.injEq, D.tup.injEq, D.lst.injEq, D.int.injEq, D.bl.injEq, D.str.injEq, and_true] at e
    obtain rfl := e
    exact h
  · intro h
    exact ⟨x, rfl, h⟩
@[simp] theorem T_every_nth_s {x : D} {y : D} {R : D → Prop} {E : Exn → Prop} : T_every_nth [x, y] R E = ((okT x ∧ y.tyN.isSome = true) ∧ (isDeckD x = false → E ("NoDeck", [])) ∧ (isDeckD x = true → inR 1 60 y = false → E ("NoNumber", [])) ∧ (isDeckD x = true → inR 1 60 y = true → R (.tup (dealtBy (itemsD x) (y.toI.toNat - 1) (y.toI.toNat - 1))))) := by
  apply propext
  constructor
  · rintro ⟨_, _, e, h⟩
    simp only [List.cons.injEq, D.tup.injEq, D.lst.injEq, D.int.injEq, D.bl.injEq, D.str.injEq, and_true] at e
    obtain ⟨rfl, rfl⟩ := e
    exact h
  · intro h
    exact ⟨x, y, rfl, h⟩
/-- check_size: size -/
def r_under_size : DS := (dIf (dBNot (dTru (dCall T_is_within (dACons (dVar 0) (dACons (dC (.int 1)) (dACons (dC (.int 20)) dANil)))))) (dRaise "NoSize") dNext)
/-- put_under: cards, many, rest -/
def r_put_under : DS := (dSeq (dIf (dTst (dBin fEqA (dLenN 0) (dC (.int 0)))) (dRet (dVar 0)) dNext)
    (dSeq (dSet 2 (dBin fSub (dVar 1) (dBin fMul (dLenN 0) (dBin fDiv (dVar 1) (dLenN 0)))))
    (dRet (dBin fAdd (dSl (dVar 0) (dPart (dVar 2)) dNoP) (dSl (dVar 0) dNoP (dPart (dVar 2)))))))
/-- dealt_by: cards, begin, between, found, left -/
def r_dealt_by : DS := (dSeq (dPar [3, 4] (dafF (dfLst dANil) (dafD (dCall T_put_under (dACons (dOf (dCF fList (dACons (dVar 0) dANil))) (dACons (dVar 1) dANil))) dafNil)))
    (dSeq (dWhile (dTst (dBin fGt (dLenN 4) (dC (.int 0)))) (dSeq (dDrop (dApp 3 (dIxK 4 (dC (.int 0)))))
    (dSet 4 (dCall T_put_under (dACons (dSl (dVar 4) (dPart (dC (.int 1))) dNoP) (dACons (dVar 2) dANil))))))
    (dRet (dVar 3))))
/-- raw_down: deck -/
def r_raw_down : DS := (dRet (dCB fTuple (dACons (dCall T_dealt_by (dACons (dVar 0) (dACons (dC (.int 0)) (dACons (dC (.int 1)) dANil)))) dANil)))
/-- down_under: deck -/
def r_down_under : DS := (dSeq (dDrop (dCall T_check_deck_x (dACons (dVar 0) dANil)))
    (dRet (dCall T_raw_down (dACons (dVar 0) dANil))))
/-- last_down: size -/
def r_last_down : DS := (dSeq (dDrop (dCall T_under_size (dACons (dVar 0) dANil)))
    (dRet (dBin fIxK (dCall T_dealt_by (dACons (dOf (dfLstRg (dRg1 (dVar 0)))) (dACons (dC (.int 0)) (dACons (dC (.int 1)) dANil)))) (dNeg (dC (.int 1))))))
/-- deck_for: order, found, place, card -/
def r_deck_for : DS := (dSeq (dDrop (dCall T_check_deck_x (dACons (dVar 0) dANil)))
    (dSeq (dOwn 1 (dfRep (dLst (dACons (dC .non) dANil)) (dLenN 0)))
    (dSeq (dFor (dZipI (dACons (dCall T_dealt_by (dACons (dOf (dfLstRg (dRg1 (dLenN 0)))) (dACons (dC (.int 0)) (dACons (dC (.int 1)) dANil)))) (dACons (dVar 0) dANil))) (bTup 2 (bCons (bName 2) (bCons (bName 3) bNil))) (dStore 1 (dVar 2) (dVar 3)))
    (dRet (dCB fTuple (dACons (dVar 1) dANil))))))
/-- every_nth: deck, n -/
def r_every_nth : DS := (dSeq (dDrop (dCall T_check_deck_x (dACons (dVar 0) dANil)))
    (dSeq (dIf (dBNot (dTru (dCall T_is_within (dACons (dVar 1) (dACons (dC (.int 1)) (dACons (dC (.int 60)) dANil)))))) (dRaise "NoNumber") dNext)
    (dRet (dCB fTuple (dACons (dCall T_dealt_by (dACons (dVar 0) (dACons (dBin fSub (dVar 1) (dC (.int 1))) (dACons (dBin fSub (dVar 1) (dC (.int 1))) dANil)))) dANil)))))
theorem pu_under_size : ∀ ds R E, T_under_size ds R E → r_under_size (fun x _ => E x) (Ends0 R) (rho0 1 ds) := by
  rintro ds R E ⟨x, rfl, hx, h1, h2⟩
  simp [r_under_size, hx]
  exact ⟨h2, h1⟩
theorem pu_put_under : ∀ ds R E, T_put_under ds R E → r_put_under (fun x _ => E x) (Ends0 R) (rho0 3 ds) := by
  rintro ds R E ⟨xs, m, rfl, ⟨hl, hm, hm2⟩, h⟩
  simp [r_put_under]
  refine ⟨fun e => ?_, fun e => ?_⟩
  · subst e; simpa using h
  · have hp : 0 < xs.length := by cases xs with
      | nil => exact absurd rfl e
      | cons _ _ => simp
    have e1 : m - xs.length * (m / xs.length) = ((m.toNat % xs.length : Nat) : Int) := by
      rw [← Int.emod_def, Int.natCast_emod, Int.toNat_of_nonneg hm]
    refine ⟨divS (by omega) (by omega), mulL (by omega) (by omega), ?_⟩
    rw [e1]
    have hlt := Nat.mod_lt m.toNat hp
    unfold rot at h
    generalize m.toNat % xs.length = q at *
    rw [cut_from (by omega), cut_to (by omega), Int.toNat_natCast]
    exact ⟨sz_of (by simp; omega), h⟩
theorem pu_dealt_by : ∀ ds R E, T_dealt_by ds R E → r_dealt_by (fun x _ => E x) (Ends0 R) (rho0 5 ds) := by
  rintro ds R E ⟨x, a, b, rfl, ⟨hs, hl, ⟨ha, ha2⟩, hb, hb2⟩, h⟩
  have main : ∀ (x0 : D) (xs : List D), xs.length ≤ 1000 → R (.lst (dealtBy xs a.toNat b.toNat)) → ∀ p, dWhile (dTst (dBin fGt (dLenN 4) (dC (.int 0)))) (dSeq (dDrop (dApp 3 (dIxK 4 (dC (.int 0)))))
    (dSet 4 (dCall T_put_under (dACons (dSl (dVar 4) (dPart (dC (.int 1))) dNoP) (dACons (dVar 2) dANil))))) (fun x _ => E x) { Ends0 R with nx := fun ρ => dRet (dVar 3) (fun x _ => E x) (Ends0 R) ρ } [.dat x0, .dat (.int a), .dat (.int b), .own p [], .dat (.lst (rot xs a.toNat))] := by
    intro x0 xs hl h p
    refine wh_inv (fun n ρ => ∃ rs fs, ρ = [.dat x0, .dat (.int a), .dat (.int b), .own p fs, .dat (.lst rs)] ∧ n = rs.length ∧ fs.length + rs.length ≤ 1000 ∧ fs ++ dealt rs.length rs b.toNat = dealtBy xs a.toNat b.toNat) ?_ (n := xs.length) ⟨rot xs a.toNat, [], rfl, by simp, by simpa using hl, by simp [dealtBy]⟩
    rintro n ρ k ⟨rs, fs, rfl, hn, hl2, hd⟩ hk
    simp
    refine ⟨fun h0 => ?_, fun h0 => ?_⟩
    · obtain ⟨z, rs, rfl⟩ : ∃ z r, rs = z :: r := by
        cases rs with
        | nil => simp at h0
        | cons z r => exact ⟨z, r, rfl⟩
      simp at hl2
      simp [cut_from]
      refine ⟨lst_lt (by omega), ⟨by omega, hb, hb2⟩, ?_⟩
      refine hk rs.length _ (by simpa using hn) ⟨rot rs b.toNat, fs ++ [z], rfl, by simp, by simp; omega, ?_⟩
      rw [← hd, rot_len, List.append_assoc]; rfl
    · subst h0
      simp [dealt] at hd
      subst hd
      exact h
  cases x with
  | lst xs =>
    simp at hl h
    simp [r_dealt_by]
    exact ⟨⟨hl, ha, ha2⟩, main (.lst xs) xs hl h⟩
  | tup xs =>
    simp at hl h
    simp [r_dealt_by]
    exact ⟨⟨hl, ha, ha2⟩, main (.tup xs) xs hl h⟩
  | _ => cases hs
theorem pu_raw_down : ∀ ds R E, T_raw_down ds R E → r_raw_down (fun x _ => E x) (Ends0 R) (rho0 1 ds) := by
  rintro ds R E ⟨xs, rfl, hl, h⟩
  simp [r_raw_down, hl]
  exact h
theorem pu_down_under : ∀ ds R E, T_down_under ds R E → r_down_under (fun x _ => E x) (Ends0 R) (rho0 1 ds) := by
  rintro ds R E ⟨x, rfl, hx, h1, h2⟩
  simp [r_down_under, hx]
  refine ⟨fun hd => ?_, h1⟩
  have h := h2 hd
  obtain ⟨ns, rfl, h3, h4, h5⟩ := deck_ints hd
  simp at h
  simp
  exact ⟨by omega, h⟩
theorem pu_last_down : ∀ ds R E, T_last_down ds R E → r_last_down (fun x _ => E x) (Ends0 R) (rho0 1 ds) := by
  rintro ds R E ⟨x, rfl, hx, h1, h2⟩
  simp [r_last_down, hx]
  refine ⟨fun hd => ?_, h1⟩
  have h := h2 hd
  obtain ⟨i, rfl, h3, h4⟩ := inR_ex hd
  simp at h
  simp
  refine ⟨rgOk_s (by omega) (by omega), by rw [rng_len]; omega, ?_⟩
  have e : dealtBy ((rng 0 i).map D.int) 0 1 = (dp i.toNat).map fun k : Nat => .int (k : Int) := by
    rw [rng_z, List.map_map]
    exact down_map _ _
  rw [e]
  have hne : dp i.toNat ≠ [] := fun z => by
    have := dp_len i.toNat
    rw [z] at this
    simp at this; omega
  rw [List.getLast?_eq_some_getLast hne] at h
  rw [List.getLast?_map, List.getLast?_eq_some_getLast hne]
  exact ⟨_, rfl, h⟩
theorem pu_deck_for : ∀ ds R E, T_deck_for ds R E → r_deck_for (fun x _ => E x) (Ends0 R) (rho0 4 ds) := by
  rintro ds R E ⟨x, rfl, hx, h1, h2⟩
  simp [r_deck_for, hx]
  refine ⟨fun hd => ?_, h1⟩
  have h := h2 hd
  obtain ⟨ns, rfl, h3, h4, h5⟩ := deck_ints hd
  simp at h
  simp
  refine ⟨by omega, sz_of (by omega), fun p => ⟨rgOk_s (by omega) (by omega), by rw [rng_len]; omega, ?_⟩⟩
  rw [rng_nat, List.map_map]
  have e : dealtBy ((List.range ns.length).map (D.int ∘ fun i : Nat => (i : Int))) 0 1 = (dp ns.length).map fun k : Nat => .int (k : Int) := down_map _ _
  rw [e]
  have ez : zipD ((dp ns.length).map fun k : Nat => .int (k : Int)) (ns.map D.int) = (List.range ns.length).map fun i => .tup [.int ((dp ns.length).getD i 0 : Nat), .int (ns.getD i 0)] := by
    apply List.ext_getElem?
    intro i
    by_cases hi : i < ns.length
    · have hi2 : i < (dp ns.length).length := by simpa using hi
      rw [zipD_get (x := .int ((dp ns.length)[i] : Nat)) (y := .int ns[i]) (by rw [List.getElem?_map, List.getElem?_eq_getElem hi2]; rfl) (by rw [List.getElem?_map, List.getElem?_eq_getElem hi]; rfl), List.getElem?_map, List.getElem?_range hi]
      simp [hi]
    · rw [List.getElem?_eq_none (by rw [zipD_len]; simp; omega), List.getElem?_eq_none (by simp; omega)]
  rw [ez]
  refine for_nat ns.length _ (fun i ρ => ∃ c d xs, ρ = [.dat (.tup (ns.map D.int)), .own p xs, c, d] ∧ xs = (List.range ns.length).map fun j => if (dp ns.length).idxOf j < i then .int (ns.getD ((dp ns.length).idxOf j) 0) else .non) ?_ ?_ rfl ⟨.un, .un, _, rfl, ?_⟩
  · rintro i ρ K hi ⟨c, d, xs, rfl, hxs⟩ hK
    have hi2 : i < (dp ns.length).length := by simpa using hi
    have hlt := dp_lt (List.getElem_mem hi2)
    have hio := (dp_nodup ns.length).idxOf_getElem i hi2
    have hq' : ∀ j, j < ns.length → (dp ns.length).idxOf j = i → (dp ns.length)[i] = j := fun j hj z => by
      subst z; exact List.getElem_idxOf _
    have e3 : (dp ns.length)[i]?.getD 0 = (dp ns.length)[i] := by rw [List.getElem?_eq_getElem hi2]; rfl
    have hl : xs.length = ns.length := by rw [hxs]; simp
    simp
    rw [e3, hl]
    refine ⟨_, ixN_n hlt, ?_⟩
    refine hK _ ⟨_, _, _, rfl, ?_⟩
    generalize (dp ns.length)[i] = q at *
    rw [hxs]
    apply List.ext_getElem?
    intro j
    by_cases hj : j < ns.length
    · rw [List.getElem?_set, List.getElem?_map, List.getElem?_map, List.getElem?_range hj]
      simp only [Option.map_some, List.length_map, List.length_range]
      by_cases hq : q = j
      · subst hq
        rw [if_pos rfl, if_pos hj, hio, if_pos (by omega)]
        simp
      · rw [if_neg hq]
        have hne : (dp ns.length).idxOf j ≠ i := fun z => hq (hq' j hj z)
        by_cases hlt2 : (dp ns.length).idxOf j < i
        · rw [if_pos hlt2, if_pos (by omega)]
        · rw [if_neg hlt2, if_neg (by omega)]
    · rw [List.getElem?_eq_none (by simp; omega), List.getElem?_eq_none (by simp; omega)]
  · rintro ρ ⟨c, d, xs, rfl, hxs⟩
    have e2 : xs = (laid ns).map D.int := by
      rw [hxs]
      unfold laid
      rw [List.map_map]
      apply List.map_congr_left
      intro j hj
      have := List.idxOf_lt_length_of_mem (dp_mem (List.mem_range.mp hj))
      rw [dp_len] at this
      simp [this]
    simp
    rw [e2]
    exact h
  · apply List.ext_getElem?
    intro j
    by_cases hj : j < ns.length
    · rw [List.getElem?_replicate, if_pos (by simpa using hj), List.getElem?_map, List.getElem?_range hj]; rfl
    · rw [List.getElem?_eq_none (by simp; omega), List.getElem?_eq_none (by simp; omega)]
theorem pu_every_nth : ∀ ds R E, T_every_nth ds R E → r_every_nth (fun x _ => E x) (Ends0 R) (rho0 2 ds) := by
  rintro ds R E ⟨x, y, rfl, ⟨hx, hy⟩, h1, h2, h3⟩
  simp [r_every_nth, hx, hy]
  refine ⟨fun hd => ⟨h2 hd, fun hn => ?_⟩, h1⟩
  have h := h3 hd hn
  obtain ⟨ns, rfl, h4, h5, h6⟩ := deck_ints hd
  obtain ⟨i, rfl, h7, h8⟩ := inR_ex hn
  simp at h
  simp
  refine ⟨⟨by omega, by omega⟩, ?_⟩
  exact h
end DL
namespace DL
open PySem PySem.Spec PyProof.Rows L2
/-! ### words -/
def letS : Str := "abcdefghijklmnopqrstuvwxyz"
def isLetD (a b : Int) : D → Bool
  | .str z => decide (a ≤ z.length) && decide ((z.length : Int) ≤ b) && z.cps.toList.all fun c => decide (c ∈ letS.cps.toList)
  | _ => false
def okS (x : D) : Prop := x.tyN.isSome = true ∧ ∀ z, x = .str z → z.length ≤ 1000
def isWordsD (m : Int) : D → Bool
  | .tup xs => decide ((xs.length : Int) ≤ m) && xs.all (isLetD 1 12)
  | _ => false
def okW (x : D) : Prop := x.tyN.isSome = true ∧ ∀ xs, x = .tup xs → xs.length ≤ 1000 ∧ ∀ y ∈ xs, okS y
def lenD : D → Nat
  | .str z => z.length
  | _ => 0
def spell {α : Type} : List α → List Nat → List α
  | _, [] => []
  | xs, k :: ks => match rot xs k with
    | [] => []
    | z :: r => z :: spell r ks
/-! ### monge -/
def monGo {α : Type} : Bool → List α → List α → List α
  | _, acc, [] => acc
  | b, acc, x :: r => monGo (!b) (if b then x :: acc else acc ++ [x]) r
def mon {α : Type} (xs : List α) : List α := monGo false [] xs
theorem monGo_map {α β : Type} (f : α → β) : ∀ (xs : List α) (b : Bool) (acc : List α), monGo b (acc.map f) (xs.map f) = (monGo b acc xs).map f
  | [], _, _ => rfl
  | x :: r, b, acc => by
    have := monGo_map f r (!b) (if b then x :: acc else acc ++ [x])
    show monGo (!b) (if b then f x :: acc.map f else acc.map f ++ [f x]) (r.map f) = _
    have e : (if b then f x :: acc.map f else acc.map f ++ [f x]) = (if b then x :: acc else acc ++ [x]).map f := by cases b <;> simp
    rw [e, this]; rfl
theorem mon_map {α β : Type} (f : α → β) (xs : List α) : mon (xs.map f) = (mon xs).map f := monGo_map f xs false []
theorem monGo_perm {α : Type} : ∀ (xs : List α) (b : Bool) (acc : List α), (monGo b acc xs).Perm (acc ++ xs)
  | [], _, acc => by simp [monGo]
  | x :: r, b, acc => by
    refine (monGo_perm r (!b) _).trans ?_
    cases b
    · simp
    · simp only [if_true]
      exact List.perm_middle.symm
theorem mon_perm {α : Type} (xs : List α) : (mon xs).Perm xs := monGo_perm xs false []
@[simp] theorem mon_len {α : Type} (xs : List α) : (mon xs).length = xs.length := (mon_perm xs).length_eq
/-! ### ways, how often -/
def isWayD : D → Bool
  | .str z => decide (z = "down") || decide (z = "monge")
  | _ => false
def once {α : Type} (w : Str) (xs : List α) : List α := if w = "down" then down xs else mon xs
theorem once_map {α β : Type} (f : α → β) (w : Str) (xs : List α) : once w (xs.map f) = (once w xs).map f := by
  unfold once; split
  · exact down_map f xs
  · exact mon_map f xs
@[simp] theorem once_len {α : Type} (w : Str) (xs : List α) : (once w xs).length = xs.length := by unfold once; split <;> simp
def cyc (w : Str) (n : Nat) : Nat → List Nat → Option Nat
  | 0, _ => none
  | f + 1, h => if h = List.range n then some 0 else (cyc w n f (once w h)).map (· + 1)
def turns (w : Str) (n : Nat) : Nat := ((cyc w n 2000 (once w (List.range n))).getD 0) + 1
theorem cyc_all : ∀ n, n ≤ 20 → (cyc "down" n 2000 (once "down" (List.range n))).isSome = true ∧ (cyc "monge" n 2000 (once "monge" (List.range n))).isSome = true := by
  have h : (List.range 21).all (fun n => (cyc "down" n 2000 (once "down" (List.range n))).isSome && (cyc "monge" n 2000 (once "monge" (List.range n))).isSome) = true := by decide +kernel
  intro n hn
  have := List.all_eq_true.mp h n (List.mem_range.mpr (by omega))
  simpa using this
theorem cyc_of {n : Nat} (hn : n ≤ 20) {z : Str} (h : isWayD (.str z) = true) : cyc z n 2000 (once z (List.range n)) = some (turns z n - 1) := by
  have h2 := cyc_all n hn
  simp only [isWayD, Bool.or_eq_true, decide_eq_true_eq] at h
  have e : (cyc z n 2000 (once z (List.range n))).isSome = true := by
    rcases h with rfl | rfl
    · exact h2.1
    · exact h2.2
  obtain ⟨r, hr⟩ := Option.isSome_iff_exists.mp e
  unfold turns
  rw [hr]; simp
def T_is_letters : TSp := fun ds R E => ∃ (x : D) (a b : Int), ds = [x, .int a, .int b] ∧ okS x ∧ R (.bl (isLetD a b x))
def T_is_name : TSp := fun ds R E => ∃ (x : D), ds = [x] ∧ okS x ∧ R (.bl (isLetD 1 12 x))
def T_are_words : TSp := fun ds R E => ∃ (x : D) (m : Int), ds = [x, .int m] ∧ okW x ∧ R (.bl (isWordsD m x))
def T_spelled : TSp := fun ds R E => ∃ (x y : D), ds = [x, y] ∧ (okT x ∧ okW y) ∧ (isDeckD x = false → E ("NoDeck", [])) ∧ (isDeckD x = true → isWordsD (itemsD x).length y = false → E ("NoWords", [])) ∧ (isDeckD x = true → isWordsD (itemsD x).length y = true → R (.tup (spell (itemsD x) ((itemsD y).map lenD))))
def T_raw_monge : TSp := fun ds R E => ∃ (xs : List D), ds = [.tup xs] ∧ xs.length ≤ 1000 ∧ R (.tup (mon xs))
def T_monge : TSp := fun ds R E => ∃ (x : D), ds = [x] ∧ okT x ∧ (isDeckD x = false → E ("NoDeck", [])) ∧ (isDeckD x = true → R (.tup (mon (itemsD x))))
def T_once_more : TSp := fun ds R E => ∃ (w : Str) (xs : List D), ds = [.str w, .tup xs] ∧ xs.length ≤ 1000 ∧ R (.tup (once w xs))
def T_turns_back : TSp := fun ds R E => ∃ (x y : D), ds = [x, y] ∧ (x.tyN.isSome = true ∧ okS y) ∧ (inR 1 20 x = false → E ("NoSize", [])) ∧ (inR 1 20 x = true → isWayD y = false → E ("NoWay", [])) ∧ (∀ z : Str, inR 1 20 x = true → y = .str z → isWayD y = true → R (.int (turns z x.toI.toNat : Nat)))
theorem mono_is_letters : MonoT T_is_letters := fun ds R R2 E E2 hR hE x => (let ⟨v1, v2, v3, v4⟩ := x; ⟨v1, v2, v3, (let ⟨v5, v6, v7⟩ := v4; ⟨v5, v6, hR _ v7⟩)⟩)
theorem len_is_letters : ∀ ds R E, T_is_letters ds R E → ds.length = 3 := by rintro ds R E ⟨_, _, _, rfl, _⟩; rfl
theorem mono_is_name : MonoT T_is_name := fun ds R R2 E E2 hR hE x => (let ⟨v1, v2⟩ := x; ⟨v1, (let ⟨v3, v4, v5⟩ := v2; ⟨v3, v4, hR _ v5⟩)⟩)
theorem len_is_name : ∀ ds R E, T_is_name ds R E → ds.length = 1 := by rintro ds R E ⟨_, rfl, _⟩; rfl
theorem mono_are_words : MonoT T_are_words := fun ds R R2 E E2 hR hE x => (let ⟨v1, v2, v3⟩ := x; ⟨v1, v2, (let ⟨v4, v5, v6⟩ := v3; ⟨v4, v5, hR _ v6⟩)⟩)
theorem len_are_words : ∀ ds R E, T_are_words ds R E → ds.length = 2 := by rintro ds R E ⟨_, _, rfl, _⟩; rfl
theorem mono_spelled : MonoT T_spelled := fun ds R R2 E E2 hR hE x => (let ⟨v1, v2, v3⟩ := x; ⟨v1, v2, (let ⟨v4, v5, v6, v7, v8⟩ := v3; ⟨v4, (let ⟨v9, v10⟩ := v5; ⟨v9, v10⟩), (fun v11 => hE _ (v6 v11)), (fun v12 v13 => hE _ (v7 v12 v13)), (fun v14 v15 => hR _ (v8 v14 v15))⟩)⟩)
theorem len_spelled : ∀ ds R E, T_spelled ds R E → ds.length = 2 := by rintro ds R E ⟨_, _, rfl, _⟩; rfl
theorem mono_raw_monge : MonoT T_raw_monge := fun ds R R2 E E2 hR hE x => (let ⟨v1, v2⟩ := x; ⟨v1, (let ⟨v3, v4, v5⟩ := v2; ⟨v3, v4, hR _ v5⟩)⟩)
theorem len_raw_monge : ∀ ds R E, T_raw_monge ds R E → ds.length = 1 := by rintro ds R E ⟨_, rfl, _⟩; rfl
theorem mono_monge : MonoT T_monge := fun ds R R2 E E2 hR hE x => (let ⟨v1, v2⟩ := x; ⟨v1, (let ⟨v3, v4, v5, v6⟩ := v2; ⟨v3, v4, (fun v7 => hE _ (v5 v7)), (fun v8 => hR _ (v6 v8))⟩)⟩)
theorem len_monge : ∀ ds R E, T_monge ds R E → ds.length = 1 := by rintro ds R E ⟨_, rfl, _⟩; rfl
theorem mono_once_more : MonoT T_once_more := fun ds R R2 E E2 hR hE x => (let ⟨v1, v2, v3⟩ := x; ⟨v1, v2, (let ⟨v4, v5, v6⟩ := v3; ⟨v4, v5, hR _ v6⟩)⟩)
theorem len_once_more : ∀ ds R E, T_once_more ds R E → ds.length = 2 := by rintro ds R E ⟨_, _, rfl, _⟩; rfl
theorem mono_turns_back : MonoT T_turns_back := fun ds R R2 E E2 hR hE x => (let ⟨v1, v2, v3⟩ := x; ⟨v1, v2, (let ⟨v4, v5, v6, v7, v8⟩ := v3; ⟨v4, (let ⟨v9, v10⟩ := v5; ⟨v9, v10⟩), (fun v11 => hE _ (v6 v11)), (fun v12 v13 => hE _ (v7 v12 v13)), (fun v14 => (fun v15 v16 v17 => hR _ ((v8 v14) v15 v16 v17)))⟩)⟩)
theorem len_turns_back : ∀ ds R E, T_turns_back ds R E → ds.length = 2 := by rintro ds R E ⟨_, _, rfl, _⟩; rfl
@[simp] theorem T_is_letters_s {x : D} {a : Int} {b : Int} {R : D → Prop} {E : Exn → Prop} : T_is_letters [x, .int a, .int b] R E = (okS x ∧ R (.bl (isLetD a b x))) := by
  apply propext
  constructor
  · rintro ⟨_, _, _, e, h⟩
    simp only [List.cons.injEq, D.tup.injEq, D.lst.injEq, D.int.injEq, D.bl.injEq, D.str.injEq, and_true] at e
    obtain ⟨rfl, rfl, rfl⟩ := e
    exact h
  · intro h
    exact ⟨x, a, b, rfl, h⟩
@[simp] theorem T_is_name_s {x : D} {R : D → Prop} {E : Exn → Prop} : T_is_name [x] R E = (okS x ∧ R (.bl (isLetD 1 12 x))) := by
  apply propext
  constructor
  · rintro ⟨_, e, h⟩
    simp only [List.cons.injEq, D.tup.injEq, D.lst.injEq, D.int.injEq, D.bl.injEq, D.str.injEq, and_true] at e
    obtain rfl := e
    exact h
  · intro h
    exact ⟨x, rfl, h⟩
@[simp] theorem T_are_words_s {x : D} {m : Int} {R : D → Prop} {E : Exn → Prop} : T_are_words [x, .int m] R E = (okW x ∧ R (.bl (isWordsD m x))) := by
  apply propext
  constructor
  · rintro ⟨_, _, e, h⟩
    simp only [List.cons.injEq, D.tup.injEq, D.lst.injEq, D.int.injEq, D.bl.injEq, D.str.injEq, and_true] at e
    obtain ⟨rfl, rfl⟩ := e
    exact h
  · intro h
    exact ⟨x, m, rfl, h⟩
@[simp] theorem T_spelled_s {x : D} {y : D} {R : D → Prop} {E : Exn → Prop} : T_spelled [x, y] R E = ((okT x ∧ okW y) ∧ (isDeckD x = false → E ("NoDeck", [])) ∧ (isDeckD x = true → isWordsD (itemsD x).length y = false → E ("NoWords", [])) ∧ (isDeckD x = true → isWordsD (itemsD x).length y = true → R (.tup (spell (itemsD x) ((itemsD y).map lenD))))) := by
  apply propext
  constructor
  · rintro ⟨_, _, e, h⟩
    simp only [List.cons.injEq, D.tup.injEq, D.lst.injEq, D.int.injEq, D.bl.injEq, D.str.injEq, and_true] at e
    obtain ⟨rfl, rfl⟩ := e
    exact h
  · intro h
    exact ⟨x, y, rfl, h⟩
@[simp] theorem T_raw_monge_s {xs : List D} {R : D → Prop} {E : Exn → Prop} : T_raw_monge [.tup xs] R E = (xs.length ≤ 1000 ∧ R (.tup (mon xs))) := by
  apply propext
  constructor
  · rintro ⟨_, e, h⟩
    simp only [List.cons.injEq, D.tup.injEq, D.lst.injEq, D.int.injEq, D.bl.injEq, D.str.injEq, and_true] at e
    obtain rfl := e
    exact h
  · intro h
    exact ⟨xs, rfl, h⟩
@[simp] theorem T_monge_s {x : D} {R : D → Prop} {E : Exn → Prop} : T_monge [x] R E = (okT x ∧ (isDeckD x = false → E ("NoDeck", [])) ∧ (isDeckD x = true → R (.tup (mon (itemsD x))))) := by
  apply propext
  constructor
  · rintro ⟨_, e, h⟩
    simp only [List.cons.injEq, D.tup.injEq, D.lst.injEq, D.int.injEq, D.bl.injEq, D.str.injEq, and_true] at e
    obtain rfl := e
    exact h
  · intro h
    exact ⟨x, rfl, h⟩
@[simp] theorem T_once_more_s {w : Str} {xs : List D} {R : D → Prop} {E : Exn → Prop} : T_once_more [.str w, .tup xs] R E = (xs.length ≤ 1000 ∧ R (.tup (once w xs))) := by
  apply propext
  constructor
  · rintro ⟨_, _, e, h⟩
    simp only [List.cons.injEq, D.tup.injEq, D.lst.injEq, D.int.injEq, D.bl.injEq, D.str.injEq, and_true] at e
    obtain ⟨rfl, rfl⟩ := e
    exact h
  · intro h
    exact ⟨w, xs, rfl, h⟩
@[simp] theorem T_turns_back_s {x : D} {y : D} {R : D → Prop} {E : Exn → Prop} : T_turns_back [x, y] R E = ((x.tyN.isSome = true ∧ okS y) ∧ (inR 1 20 x = false → E ("NoSize", [])) ∧ (inR 1 20 x = true → isWayD y = false → E ("NoWay", [])) ∧ (∀ z : Str, inR 1 20 x = true → y = .str z → isWayD y = true → R (.int (turns z x.toI.toNat : Nat)))) := by
  apply propext
  constructor
  · rintro ⟨_, _, e, h⟩
    simp only [List.cons.injEq, D.tup.injEq, D.lst.injEq, D.int.injEq, D.bl.injEq, D.str.injEq, and_true] at e
    obtain ⟨rfl, rfl⟩ := e
    exact h
  · intro h
    exact ⟨x, y, rfl, h⟩
/-- is_letters: thing, least, most, sign -/
def r_is_letters : DS := (dRet (dAndV (dCB fIsi (dACons (dVar 0) (dACons (dC (.raw (.ty "str"))) dANil))) (dAndV (dChain fLe fLe (dVar 1) (dLenN 0) (dVar 2)) (dCB fAll (dACons (dOf (dLc (dSeqI (dVar 0)) (bName 3) dYes (dBin fInK (dVar 3) (dC (.str ("abcdefghijklmnopqrstuvwxyz" : Str)))) [3])) dANil)))))
/-- is_name: thing -/
def r_is_name : DS := (dRet (dCall T_is_letters (dACons (dVar 0) (dACons (dC (.int 1)) (dACons (dC (.int 12)) dANil)))))
/-- are_words: thing, most, word -/
def r_are_words : DS := (dRet (dAndV (dCB fIsi (dACons (dVar 0) (dACons (dC (.raw (.ty "tuple"))) dANil))) (dAndV (dBin fLe (dLenN 0) (dVar 1)) (dCB fAll (dACons (dOf (dLc (dSeqI (dVar 0)) (bName 2) dYes (dCall T_is_name (dACons (dVar 2) dANil)) [2])) dANil)))))
/-- spelled: deck, words, found, left, word -/
def r_spelled : DS := (dSeq (dDrop (dCall T_check_deck_x (dACons (dVar 0) dANil)))
    (dSeq (dIf (dBNot (dTru (dCall T_are_words (dACons (dVar 1) (dACons (dLenN 0) dANil))))) (dRaise "NoWords") dNext)
    (dSeq (dPar [2, 3] (dafF (dfLst dANil) (dafD (dOf (dCF fList (dACons (dVar 0) dANil))) dafNil)))
    (dSeq (dFor (dSeqI (dVar 1)) (bName 4) (dSeq (dSet 3 (dCall T_put_under (dACons (dVar 3) (dACons (dLenN 4) dANil))))
    (dSeq (dDrop (dApp 2 (dIxK 3 (dC (.int 0)))))
    (dSet 3 (dSl (dVar 3) (dPart (dC (.int 1))) dNoP)))))
    (dRet (dCB fTuple (dACons (dVar 2) dANil)))))))
/-- raw_monge: deck, found, is_above, card -/
def r_raw_monge : DS := (dSeq (dPar [1, 2] (dafD (dLst dANil) (dafD (dC (.bl false)) dafNil)))
    (dSeq (dFor (dSeqI (dVar 0)) (bName 3) (dSeq (dSet 1 (dIfE (dTru (dVar 2)) (dBin fAdd (dLst (dACons (dVar 3) dANil)) (dVar 1)) (dBin fAdd (dVar 1) (dLst (dACons (dVar 3) dANil)))))
    (dSet 2 (dNotV (dVar 2)))))
    (dRet (dCB fTuple (dACons (dVar 1) dANil)))))
/-- monge: deck -/
def r_monge : DS := (dSeq (dDrop (dCall T_check_deck_x (dACons (dVar 0) dANil)))
    (dRet (dCall T_raw_monge (dACons (dVar 0) dANil))))
/-- once_more: way, deck -/
def r_once_more : DS := (dRet (dIfE (dTst (dBin fEqA (dVar 0) (dC (.str ("down" : Str))))) (dCall T_raw_down (dACons (dVar 1) dANil)) (dCall T_raw_monge (dACons (dVar 1) dANil))))
/-- turns_back: size, way, first, here, many -/
def r_turns_back : DS := (dSeq (dDrop (dCall T_under_size (dACons (dVar 0) dANil)))
    (dSeq (dIf (dBOr (dBNot (dTru (dCB fIsi (dACons (dVar 1) (dACons (dC (.raw (.ty "str"))) dANil))))) (dTst (dBin fNotInK (dVar 1) (dTup (dACons (dC (.str ("down" : Str))) (dACons (dC (.str ("monge" : Str))) dANil)))))) (dRaise "NoWay") dNext)
    (dSeq (dSet 2 (dTupRg (dRg1 (dVar 0))))
    (dSeq (dPar [3, 4] (dafD (dCall T_once_more (dACons (dVar 1) (dACons (dVar 2) dANil))) (dafD (dC (.int 1)) dafNil)))
    (dSeq (dWhile (dTst (dBin fNeA (dVar 3) (dVar 2))) (dPar [3, 4] (dafD (dCall T_once_more (dACons (dVar 1) (dACons (dVar 3) dANil))) (dafD (dBin fAdd (dVar 4) (dC (.int 1))) dafNil))))
    (dRet (dVar 4)))))))
theorem pu_is_letters : ∀ ds R E, T_is_letters ds R E → r_is_letters (fun x _ => E x) (Ends0 R) (rho0 4 ds) := by
  rintro ds R E ⟨x, a, b, rfl, ⟨hx, hx2⟩, h⟩
  cases x with
  | str z =>
    have hl := hx2 z rfl
    simp [r_is_letters]
    have hs : (signs z).length = z.length := by simp [signs, Str.length]
    have hd : isLetD a b (.str z) = (decide (a ≤ z.length) && decide ((z.length : Int) ≤ b) && z.cps.toList.all fun c => decide (c ∈ letS.cps.toList)) := rfl
    refine ⟨sz_of (by omega), fun h1 => ⟨fun h2 => ⟨by rw [hs]; exact sz_of (by omega), ?_⟩, fun h2 => ?_⟩, fun h1 => ?_⟩
    · rw [hd, decide_eq_true h1, decide_eq_true h2] at h
      refine lc_all z.cps.toList (fun c => .str ⟨#[c]⟩) (fun c => .bl (decide (c ∈ letS.cps.toList))) rfl (fun c hc K hK => ?_) (fun ρ2 hρ => all_bls (by simpa using h))
      simp [lcStep_s]
      have := hK [.dat (.str z), .dat (.int a), .dat (.int b), .dat (.str ⟨#[c]⟩)] rfl
      simpa [letS] using this
    · rw [hd, decide_eq_true h1, decide_eq_false (by omega)] at h
      simpa using h
    · rw [hd, decide_eq_false (by omega)] at h
      simpa using h
  | raw v => simp at hx
  | fn v => simp at hx
  | _ => simpa [r_is_letters, isLetD] using h
theorem pu_is_name : ∀ ds R E, T_is_name ds R E → r_is_name (fun x _ => E x) (Ends0 R) (rho0 1 ds) := by
  rintro ds R E ⟨x, rfl, hx, h⟩
  simp [r_is_name, hx]
  exact h
theorem pu_are_words : ∀ ds R E, T_are_words ds R E → r_are_words (fun x _ => E x) (Ends0 R) (rho0 3 ds) := by
  rintro ds R E ⟨x, m, rfl, ⟨hx, hx2⟩, h⟩
  cases x with
  | tup xs =>
    obtain ⟨hl, ht⟩ := hx2 xs rfl
    simp [r_are_words]
    have hd : isWordsD m (.tup xs) = (decide ((xs.length : Int) ≤ m) && xs.all (isLetD 1 12)) := rfl
    refine ⟨fun h1 => ⟨sz_of (by omega), ?_⟩, fun h1 => ?_⟩
    · rw [hd, decide_eq_true h1] at h
      refine lc_map (fun y => .bl (isLetD 1 12 y)) rfl (fun y hy K hK => ?_) (fun ρ2 hρ => all_bls (by simpa using h))
      simp [lcStep_s, ht y hy]
      exact hK _ rfl
    · rw [hd, decide_eq_false (by omega)] at h
      simpa using h
  | raw v => simp at hx
  | fn v => simp at hx
  | _ => simpa [r_are_words, isWordsD] using h
theorem pu_spelled : ∀ ds R E, T_spelled ds R E → r_spelled (fun x _ => E x) (Ends0 R) (rho0 5 ds) := by
  rintro ds R E ⟨x, y, rfl, ⟨hx, hy⟩, h1, h2, h3⟩
  simp [r_spelled, hx]
  refine ⟨fun hd => ?_, h1⟩
  obtain ⟨ns, rfl, h4, h5, h6⟩ := deck_ints hd
  simp [hy] at h2 h3 ⊢
  refine ⟨h2 hd, fun hw p => ?_⟩
  have h := h3 hd hw
  cases y with
  | tup ws =>
    simp only [isWordsD, Bool.and_eq_true, decide_eq_true_eq, List.all_eq_true] at hw
    simp at h ⊢
    refine for_inv (fun ws' ρ => ∃ c rs fs, ρ = [.dat (.tup (ns.map D.int)), .dat (.tup ws), .own p fs, .dat (.lst rs), c] ∧ (∀ w ∈ ws', isLetD 1 12 w = true) ∧ ws'.length ≤ rs.length ∧ rs.length + fs.length ≤ 52 ∧ fs ++ spell rs (ws'.map lenD) = spell (ns.map D.int) (ws.map lenD)) ?_ ?_ ⟨_, _, _, rfl, hw.2, by simpa using hw.1, by simpa using h4, rfl⟩
    · rintro w ws' ρ k ⟨c, rs, fs, rfl, a1, a2, a3, a4⟩ hk
      have hw1 := a1 w List.mem_cons_self
      cases w with
      | str z =>
        simp only [isLetD, Bool.and_eq_true, decide_eq_true_eq] at hw1
        simp only [List.length_cons] at a2
        simp only [List.map_cons, lenD, spell] at a4
        cases e : rot rs z.length with
        | nil => have := rot_len rs z.length; rw [e] at this; simp at this; omega
        | cons x ts =>
          rw [e] at a4
          have hl := rot_len rs z.length
          rw [e] at hl
          simp only [List.length_cons] at hl
          simp [cut_from, e]
          refine ⟨sz_of (by omega), ⟨by omega, by omega⟩, lst_lt (by omega), hk _ ⟨_, ts, fs ++ [x], rfl, fun w hw => a1 w (List.mem_cons_of_mem _ hw), by omega, by simp; omega, ?_⟩⟩
          rw [← a4, List.append_assoc]; rfl
      | _ => cases hw1
    · rintro ρ ⟨c, rs, fs, rfl, a1, a2, a3, a4⟩
      simp [spell] at a4
      simp [a4]
      exact h
  | _ => cases hw
theorem pu_raw_monge : ∀ ds R E, T_raw_monge ds R E → r_raw_monge (fun x _ => E x) (Ends0 R) (rho0 4 ds) := by
  rintro ds R E ⟨xs, rfl, hl, h⟩
  simp [r_raw_monge]
  refine for_inv (fun ys ρ => ∃ c b acc, ρ = [.dat (.tup xs), .dat (.lst acc), .dat (.bl b), c] ∧ acc.length + ys.length ≤ 1000 ∧ monGo b acc ys = mon xs) ?_ ?_ ⟨_, _, _, rfl, by simpa using hl, rfl⟩
  · rintro y ys ρ k ⟨c, b, acc, rfl, a1, a2⟩ hk
    simp only [List.length_cons] at a1
    cases b
    · simp
      refine ⟨sz_of (by omega), hk _ ⟨_, true, acc ++ [y], rfl, by simp; omega, a2⟩⟩
    · simp
      refine ⟨sz_of (by omega), hk _ ⟨_, false, y :: acc, rfl, by simp; omega, a2⟩⟩
  · rintro ρ ⟨c, b, acc, rfl, a1, a2⟩
    simp [monGo] at a2
    simp [a2]
    exact h
theorem pu_monge : ∀ ds R E, T_monge ds R E → r_monge (fun x _ => E x) (Ends0 R) (rho0 1 ds) := by
  rintro ds R E ⟨x, rfl, hx, h1, h2⟩
  simp [r_monge, hx]
  refine ⟨fun hd => ?_, h1⟩
  have h := h2 hd
  obtain ⟨ns, rfl, h3, h4, h5⟩ := deck_ints hd
  simp at h ⊢
  exact ⟨by omega, h⟩
theorem pu_once_more : ∀ ds R E, T_once_more ds R E → r_once_more (fun x _ => E x) (Ends0 R) (rho0 2 ds) := by
  rintro ds R E ⟨w, xs, rfl, hl, h⟩
  simp [r_once_more, hl]
  unfold once at h
  exact ⟨fun e => by rw [if_pos e] at h; exact h, fun e => by rw [if_neg e] at h; exact h⟩
theorem pu_turns_back : ∀ ds R E, T_turns_back ds R E → r_turns_back (fun x _ => E x) (Ends0 R) (rho0 5 ds) := by
  rintro ds R E ⟨x, y, rfl, ⟨hx, hy⟩, h1, h2, h3⟩
  simp [r_turns_back, hx]
  refine ⟨fun hd => ?_, h1⟩
  obtain ⟨i, rfl, h7, h8⟩ := inR_ex hd
  have h2 := h2 hd
  cases y with
  | str z =>
    have e : D.mem (.str z) [.str (Str.ofString "down"), .str (Str.ofString "monge")] = isWayD (.str z) := by
      have q : ∀ a b : Str, (a == b) = decide (b = a) := fun a b => by
        by_cases h : a = b
        · subst h; simp
        · have h' : ¬ b = a := fun z => h z.symm
          simp [h, h']
      simp [D.mem, isWayD, q]
    have h3 := fun h => h3 z hd rfl h
    simp at h3
    simp [e]
    refine ⟨fun hf => h2 hf, fun ht => ?_⟩
    have hz := h3 ht
    have hc := cyc_of (n := i.toNat) (by omega) ht
    refine ⟨rgOk_s (by omega) (by omega), by rw [rng_len]; omega, ?_⟩
    have et : ∀ hs : List Nat, once z ((hs.map fun k : Nat => (k : Int)).map D.int) = ((once z hs).map fun k : Nat => (k : Int)).map D.int := fun hs => by rw [once_map, once_map]
    rw [rng_z, et]
    have ht1 : 1 ≤ turns z i.toNat := by unfold turns; omega
    refine wh_inv (fun n ρ => ∃ (hs : List Nat) (m r : Nat), ρ = [.dat (.int i), .dat (.str z), .dat (ti ((List.range i.toNat).map fun k : Nat => (k : Int))), .dat (ti (hs.map fun k : Nat => (k : Int))), .dat (.int m)] ∧ hs.length ≤ 20 ∧ cyc z i.toNat n hs = some r ∧ m + r = turns z i.toNat) ?_ (n := 2000) ⟨_, 1, _, rfl, by simp; omega, hc, by omega⟩
    rintro n ρ k ⟨hs, m, r, rfl, a0, a1, a2⟩ hk
    have inj : ∀ {as bs : List Nat}, (as.map fun k : Nat => (k : Int)) = (bs.map fun k : Nat => (k : Int)) ↔ as = bs := by
      intro as bs
      exact List.map_inj_right (fun x y e => by omega)
    simp [inj]
    cases n with
    | zero => simp [cyc] at a1
    | succ n =>
      unfold cyc at a1
      refine ⟨fun hne => ?_, fun he => ?_⟩
      · rw [if_neg hne] at a1
        obtain ⟨r', hr', rfl⟩ := Option.map_eq_some_iff.mp a1
        refine ⟨by omega, ?_⟩
        have := hk n _ rfl ⟨once z hs, m + 1, r', rfl, by simpa using a0, hr', by omega⟩
        simp only [ti] at this
        rw [← et hs] at this
        simpa [ti] using this
      · rw [if_pos he] at a1
        cases a1
        rw [show (m : Int) = (turns z i.toNat : Nat) by omega]
        exact hz
  | raw v => have := hy.1; simp at this
  | fn v => have := hy.1; simp at this
  | _ => simpa using h2 rfl
end DL
/-! DLs1: the letters of a text as a list -/
namespace DL
open PySem PySem.Spec PyProof.Rows L2
def charsV (x : Str) : List V := x.cps.toList.map fun c => V.str ⟨#[c]⟩
def charsD (x : Str) : List D := x.cps.toList.map fun c => D.str ⟨#[c]⟩
def rListS : List V → Hp → VK → Prop := fun xs H Q => ∃ x, xs = [V.str x] ∧ x.cps.size ≤ sizeLine ∧ ∀ l, H l = none → Q (.ref l) (upd H l (.lst (charsV x)))
theorem vals_chars {x : Str} {acc : Array Value} (h : ItemsOf (SignAt x) acc x.cps.size) : Vals (charsV x) acc.toList := by
  have key : ∀ (cs : List Nat) (us : List Value), us.length = cs.length → (∀ (i : Nat) v, us[i]? = some v → ∃ c u, cs[i]? = some c ∧ v = .str ⟨#[c]⟩ u) → Vals (cs.map fun c => V.str ⟨#[c]⟩) us := by
    intro cs
    induction cs with
    | nil => intro us hl _; cases us with
      | nil => exact .nil
      | cons _ _ => cases hl
    | cons c cs ih =>
      intro us hl hu
      cases us with
      | nil => cases hl
      | cons u us =>
        obtain ⟨c', t, e, e2⟩ := hu 0 u rfl
        cases e
        exact .cons ⟨t, e2⟩ (ih us (by simpa using hl) fun i v hv => hu (i + 1) v hv)
  obtain ⟨h1, h2⟩ := h
  refine key x.cps.toList acc.toList (by simp [h1]) fun i v hv => ?_
  obtain ⟨c, u, e, e2⟩ := h2 i v (by simpa using hv)
  exact ⟨c, u, by simpa using e, e2⟩
section
variable {X : Cx}
theorem call_listS (hc : X.calm = true) : CallR X (.type "list") rListS := by
  intro pins s σ H xs us Q I r h
  obtain ⟨x, rfl, hz, q⟩ := h
  obtain ⟨u, rfl, rx⟩ := vals1 r
  obtain ⟨t, rfl⟩ := rx
  refine call_list_str (I.ok.hd hc) x t (fun h' tk acc c' hk e hi => ?_) hz
  refine ⟨.ref s.heap.objs.size, _, I.laid (t' := tk) hk (Nat.le_refl _) (show ObjOk X.prog X.w _ h' _ (.lst (charsV x)) from ⟨?_, acc.toList, c', vals_chars hi, ?_⟩), rfl, q _ (I.hok.fresh (Nat.le_refl _))⟩
  · unfold charsV; rw [List.length_map, Array.length_toList]; exact hz
  · rw [Array.toArray_toList]; exact e
end
def fListS : List D → (List D → Prop) → Prop
  | [.str x], k => x.cps.size ≤ sizeLine ∧ k (charsD x)
  | _, _ => False
@[simp] theorem fListS_s {x : Str} {k : List D → Prop} : fListS [.str x] k = (x.cps.size ≤ sizeLine ∧ k (charsD x)) := rfl
theorem reps_chars {K : PySem.W.Frag} {S : Hp} {x : Str} : Reps K S (charsV x) (charsD x) := by
  have key : ∀ cs : List Nat, Reps K S (cs.map fun c => V.str ⟨#[c]⟩) (cs.map fun c => D.str ⟨#[c]⟩) := by
    intro cs
    induction cs with
    | nil => exact .nil
    | cons c cs ih => exact .cons (.str _) ih
  exact key _
theorem cf_listS {K : PySem.W.Frag} : CallF K rListS fListS := by
  intro RK g S H σ ρ xs vs k Qh R r h hq
  match xs, r, h with
  | [.str x], .cons r1 .nil, h =>
    cases r1
    refine ⟨x, rfl, h.1, fun p hp => ?_⟩
    obtain ⟨f1, f2, f3, f4⟩ := R.fresh hp
    exact hq p _ _ S _ (R.alloc0 hp) (Same.refl S) upd_same f2 f1 f4 reps_chars h.2
end DL
/-! DLk1: dicts: update, get with a default -/
namespace DL
open PySem PySem.Spec PyProof.Rows L2

def mergeV (kvs more : List (Key × V)) : List (Key × V) := more.foldl (fun acc kv => putK acc kv.1 kv.2) kvs
def mergeD (kds more : KD) : KD := more.foldl (fun acc kv => putD acc kv.1 kv.2) kds
theorem kv_merge {kvs more : List (Key × V)} {vs us : List (Key × Value)} (r : KV kvs vs) (q : KV more us) : KV (mergeV kvs more) (merged vs us) := by
  unfold mergeV merged
  induction q generalizing kvs vs with
  | nil => exact r
  | @cons a b more us h t ih =>
    obtain ⟨e1, e2⟩ := h
    simp only [List.foldl_cons]
    rw [e1]
    exact ih (r.put _ e2)
theorem putK_le (kvs : List (Key × V)) (k : Key) (v : V) : (putK kvs k v).length ≤ kvs.length + 1 := by
  unfold putK; split <;> simp
theorem mergeV_le : ∀ (more kvs : List (Key × V)), (mergeV kvs more).length ≤ kvs.length + more.length
  | [], kvs => by simp [mergeV]
  | kv :: more, kvs => by
    have h1 := mergeV_le more (putK kvs kv.1 kv.2)
    have h2 := putK_le kvs kv.1 kv.2
    show (mergeV (putK kvs kv.1 kv.2) more).length ≤ _
    simp only [List.length_cons]; omega
theorem KReps.merge {K : PySem.W.Frag} {S : Hp} {kvs more : List (Key × V)} {kds es : KD} (h : KReps K S kvs kds) (q : KReps K S more es) : KReps K S (mergeV kvs more) (mergeD kds es) := by
  unfold mergeV mergeD
  induction q generalizing kvs kds with
  | nil => exact h
  | cons r t ih =>
    simp only [List.foldl_cons]
    exact ih (h.put r)
section
variable {X : Cx} {o e f : Expr} {apos cpos : Pos} {td ty tx : TE}
def tDUpd (td ty : TE) : TE := fun σ H Q => td σ H fun x H1 => ∃ a, x = .ref a ∧ IsD H1 a ∧ ty σ H1 fun y H2 => ∃ b kvs more, y = .ref b ∧ a ≠ b ∧ H2 a = some (.dK kvs) ∧ Rd H2 b (.dK more) ∧ kvs.length + more.length ≤ sizeLine ∧ Q .non (upd H2 a (.dK (mergeV kvs more)))
theorem pe_dupd (ho : PE X o td) (he : PE X e ty) (m : M1 X o "update" apos e cpos) : PE X (.Call (.Attribute o "update" apos) [e] [] cpos) (tDUpd td ty) := by
  refine ⟨fun pins s σ H Q I h => ?_⟩
  refine wpAny_Call_method m.base m.few m.line PySem.F.plainAttrs_dict PySem.F.slot_dict_update PySem.F.type_dict_update (thn (ho.run pins s σ H _ I h) fun u s1 ⟨x, H1, I1, rx, a, ex, d, q1⟩ => ?_)
  subst ex
  obtain rfl : u = Value.ref a := rx
  obtain ⟨t1, t2, _⟩ := isD_at I1 d
  refine ⟨t1, t2, ?_⟩
  rw [m.trees]
  refine Calls.callWith_builtin rfl (Calls.evalArgs_plain (Calls.spliced_cons (thn (he.run pins s1 σ H1 _ I1 q1) fun iv s2 ⟨y, H2, I2, ry, b, kvs, more, ey, hab, ha, hb, hz, q2⟩ => Calls.spliced_nil ?_)))
  subst ey
  obtain rfl : iv = Value.ref b := ry
  obtain ⟨z1, d1, vs, rel, dd⟩ := dk_of I2.hok ha
  obtain ⟨z2, d2, us, rel2, dd2⟩ := dk_rd I2.hok hb
  refine call_meetsIn PySem.F.slot_dict_update dd.typeIs PySem.F.entry_dict_update (PySem.F.args_dict_update_2 _ _) (meets_dict_update (mixKind X.prog X.w) a b hab d2)
    ⟨vs, us, dd, dd2, by rw [← rel.length, ← rel2.length]; exact hz, fun h' dd' _ hs => ⟨.non, _, ?_, rfl, q2⟩⟩
  have he : ∃ q, h'.get? a = some q := let ⟨q, _, _, hq, _⟩ := dd'; ⟨q, hq⟩
  exact d_write I2 (by rw [ha]; exact True.intro) hs he (L2.dk_new (Nat.le_trans (mergeV_le more kvs) hz) d1 (kv_merge rel rel2) dd')
end
/-- x.update(e), x an own dict -/
def dUpd (i : Nat) (d : DT) : DT := fun E ρ Q => (∃ p ds, ρ[i]? = some (.ownK p ds)) ∧ d E ρ fun y ρ1 => match ρ1[i]?, y with
  | some (.ownK p ds), .dct ks es => ds.length + ks.length ≤ sizeLine ∧ Q .non (ρ1.set i (.ownK p (mergeD ds (ks.zip es))))
  | _, _ => False
/-- x.get(e, f) -/
def getOf : Option Cell → D → D → (D → Prop) → Prop
  | some (.ownK _ kds), y, z, k => ∃ q, y.key? = some q ∧ k ((valD kds q).getD z)
  | some (.dat (.dct ks es)), y, z, k => ∃ q, y.key? = some q ∧ k ((valD (ks.zip es) q).getD z)
  | _, _, _, _ => False
def isDct : Option Cell → Prop
  | some (.ownK _ _) => True
  | some (.dat (.dct _ _)) => True
  | _ => False
def dGetN (i : Nat) (db dc : DT) : DT := fun E ρ Q => isDct ρ[i]? ∧ db E ρ fun y ρ1 => dc E ρ1 fun z ρ2 => getOf ρ2[i]? y z fun w => Q w ρ2
/-- {..}.get(e, f) -/
def dGetD (da db dc : DT) : DT := fun E ρ Q => da E ρ fun x ρ1 => (∃ ks es, x = .dct ks es) ∧ db E ρ1 fun y ρ2 => dc E ρ2 fun z ρ3 => getOf (some (.dat x)) y z fun w => Q w ρ3
section
variable {X : Cx} {RK : Res → Prop} {W : WX} {e f o : Expr} {d da db dc : DT} {x : Str} {p1 apos cpos : Pos}
theorem de_upd (i : Nat) (he : DE X RK W e d) (m : M1 X (.Name x p1) "update" apos e cpos := by exact ⟨rfl, rfl, rfl, rfl⟩) (hN : X.N[i]? = some x := by rfl) (hv : Vis X.env.scope x := by first | exact Or.inl rfl | exact Or.inr (Or.inl rfl) | exact Or.inr (Or.inr rfl)) (hd : (x == ("__debug__" : Str)) = false := by decide)
    (hcd : (x == ("__classdict__" : Str)) = false := by decide) : DE X RK W (.Call (.Attribute (.Name x p1) "update" apos) [e] [] cpos) (dUpd i d) :=
  pe_weak (pe_dupd (pe_var hN hv hd hcd) he m) (by
  rintro σ H Qh ⟨g, S, ρ, Q, E, R, ⟨⟨p, ds, h0⟩, h⟩, hq, hx⟩
  obtain ⟨z1, z2, z3, xs, z4, z5⟩ := R.cell i _ h0
  refine ⟨_, z1, _, rfl, .inl ⟨xs, .inl z4⟩, g, S, ρ, _, E, R, h, fun v H1 S1 ρ1 y R1 e1 r1 q1 => ?_, hx⟩
  cases w : ρ1[i]? with
  | none => simp only [w] at q1
  | some c =>
    cases c with
    | ownK p' ds' =>
      cases y with
      | dct ks es =>
        simp only [w] at q1
        obtain ⟨y1, y2, y3, ys, y4, y5, y6⟩ := R1.cell i _ w
        have ep : p' = p := by rw [z1] at y1; cases y1; rfl
        subst ep
        cases r1 with
        | @dct b more _ _ b1 b2 b3 =>
          have kr := KReps.of y5 y6
          have km := KReps.of2 b2 b3
          have hne : p' ≠ b := fun z => by rw [z, b1] at y2; cases y2
          refine ⟨b, ys, more, rfl, hne, y4, .inl (R1.sub _ _ b1), ?_, ?_⟩
          · rw [kr.length, ← List.length_map (f := (·.1)) (as := more), b2]; exact q1.1
          · exact hq _ _ S1 _ _ (R1.putK w (kr.merge km)) e1 .non q1.2
      | _ => simp only [w] at q1
    | _ => simp only [w] at q1)
theorem get_run {K : PySem.W.Frag} {g : G} {S H : Hp} {σ : L2.St} {ρ : Rho} {a : Addr} {c : Cell} {y z : D} {u v : V} {k : D → Prop} (R : ER K RK g S H σ ρ) (hc : CellOk K g S H (some (some (.ref a))) c) (ry : Rep K S u y) (rz : Rep K S v z)
    (h : getOf (some c) y z k) : ∃ o, DGet H a u o ∧ ∃ w, Rep K S (o.getD v) w ∧ k w := by
  unfold getOf at h
  split at h
  · rename_i c' p kds y' z' k' ec
    cases ec
    obtain ⟨y1, y2, y3, ys, y4, y5, y6⟩ := hc
    cases y1
    obtain ⟨q, hk, h⟩ := h
    refine ⟨_, dget_of y4 ry hk, _, ?_, h⟩
    rcases (KReps.of y5 y6).val (k := q) with ⟨a1, b1⟩ | ⟨w, d, a1, b1, r⟩
    · rw [a1, b1]; exact rz
    · rw [a1, b1]; exact r
  · rename_i c' ks es y' z' k' ec
    cases ec
    obtain ⟨v', e', r'⟩ := hc
    cases e'
    obtain ⟨q, hk, h⟩ := h
    cases r' with
    | @dct b more _ _ b1 b2 b3 =>
      refine ⟨_, dget_of (R.sub _ _ b1) ry hk, _, ?_, h⟩
      rcases (KReps.of2 b2 b3).val (k := q) with ⟨a1, c1⟩ | ⟨w, d, a1, c1, r⟩
      · rw [a1, c1]; exact rz
      · rw [a1, c1]; exact r
  · exact h.elim
theorem de_getN (i : Nat) (hu : X.A.units + 65 < cLine) (hb : DE X RK W e db) (hc : DE X RK W f dc) (m : M2 X (.Name x p1) "get" apos e f cpos := by exact ⟨rfl, rfl, rfl, rfl⟩) (hN : X.N[i]? = some x := by rfl) (hv : Vis X.env.scope x := by first | exact Or.inl rfl | exact Or.inr (Or.inl rfl) | exact Or.inr (Or.inr rfl)) (hd : (x == ("__debug__" : Str)) = false := by decide)
    (hcd : (x == ("__classdict__" : Str)) = false := by decide) : DE X RK W (.Call (.Attribute (.Name x p1) "get" apos) [e, f] [] cpos) (dGetN i db dc) :=
  pe_weak (pe_dget2 (by omega) (pe_var hN hv hd hcd) hb hc m) (by
  rintro σ H Qh ⟨g, S, ρ, Q, E, R, ⟨hD, h⟩, hq, hx⟩
  have key : ∃ a : Addr, σ[i]? = some (some (.ref a)) ∧ IsD H a := by
    unfold isDct at hD
    split at hD
    · rename_i p kds w
      obtain ⟨z1, z2, z3, xs, z4, z5⟩ := R.cell i _ w
      exact ⟨p, z1, .inl ⟨xs, .inl z4⟩⟩
    · rename_i ks es w
      obtain ⟨v, z1, z2⟩ := R.cell i _ w
      cases z2 with
      | @dct b more _ _ b1 b2 b3 => exact ⟨b, z1, .inl ⟨more, .inl (R.sub _ _ b1)⟩⟩
    · exact hD.elim
  obtain ⟨a, z1, hI⟩ := key
  refine ⟨_, z1, a, rfl, hI, g, S, ρ, _, E, R, h, fun u H1 S1 ρ1 y R1 e1 r1 q1 => ?_, hx⟩
  refine ⟨g, S1, ρ1, _, E, R1, q1, fun v H2 S2 ρ2 z R2 e2 r2 q2 => ?_, hx.up e1⟩
  cases w : ρ2[i]? with
  | none => rw [w] at q2; exact q2.elim
  | some c =>
    rw [w] at q2
    have hc := R2.cell i _ w
    rw [z1] at hc
    obtain ⟨o, g1, w', g2, g3⟩ := get_run R2 hc (r1.up e2) r2 q2
    exact ⟨o, g1, hq _ _ S2 _ _ R2 (e1.trans e2) g2 g3⟩)
theorem de_getD (hu : X.A.units + 65 < cLine) (ha : DE X RK W o da) (hb : DE X RK W e db) (hc : DE X RK W f dc) (m : M2 X o "get" apos e f cpos := by exact ⟨rfl, rfl, rfl, rfl⟩) : DE X RK W (.Call (.Attribute o "get" apos) [e, f] [] cpos) (dGetD da db dc) :=
  pe_weak (pe_dget2 (by omega) ha hb hc m) (by
  rintro σ H Qh ⟨g, S, ρ, Q, E, R, h, hq, hx⟩
  refine ⟨g, S, ρ, _, E, R, h, fun u0 H0 S0 ρ0 x R0 e0 r0 q0 => ?_, hx⟩
  obtain ⟨⟨ks, es, rfl⟩, q0⟩ := q0
  cases r0 with
  | @dct b more _ _ b1 b2 b3 =>
    refine ⟨b, rfl, .inl ⟨more, .inl (R0.sub _ _ b1)⟩, g, S0, ρ0, _, E, R0, q0, fun u H1 S1 ρ1 y R1 e1 r1 q1 => ?_, hx.up e0⟩
    refine ⟨g, S1, ρ1, _, E, R1, q1, fun v H2 S2 ρ2 z R2 e2 r2 q2 => ?_, (hx.up e0).up e1⟩
    have hc : CellOk X.K g S2 H2 (some (some (.ref b))) (.dat (.dct ks es)) := ⟨_, rfl, .dct ((e1.trans e2) _ _ b1) b2 (b3.up (e1.trans e2))⟩
    obtain ⟨o, g1, w', g2, g3⟩ := get_run R2 hc (r1.up e2) r2 q2
    exact ⟨o, g1, hq _ _ S2 _ _ R2 (e0.trans (e1.trans e2)) g2 g3⟩)
end
@[simp] theorem getOf_d {ks : List Key} {es : List D} {y z : D} {k : D → Prop} : getOf (some (.dat (.dct ks es))) y z k = ∃ q, y.key? = some q ∧ k ((valD (ks.zip es) q).getD z) := rfl
@[simp] theorem getOf_k {p : Addr} {kds : KD} {y z : D} {k : D → Prop} : getOf (some (.ownK p kds)) y z k = ∃ q, y.key? = some q ∧ k ((valD kds q).getD z) := rfl
@[simp] theorem isDct_d {ks : List Key} {es : List D} : isDct (some (.dat (.dct ks es))) = True := rfl
@[simp] theorem isDct_k {p : Addr} {kds : KD} : isDct (some (.ownK p kds)) = True := rfl
section
variable {i : Nat} {d da db dc : DT} {E : EK} {c : Cell} {r : Rho} {Q : D → Rho → Prop} {ρ : Rho}
@[simp] theorem dGetN_s : dGetN i db dc E ρ Q = (isDct ρ[i]? ∧ db E ρ fun y ρ1 => dc E ρ1 fun z ρ2 => getOf ρ2[i]? y z fun w => Q w ρ2) := rfl
@[simp] theorem dGetD_s : dGetD da db dc E ρ Q = da E ρ fun x ρ1 => (∃ ks es, x = .dct ks es) ∧ db E ρ1 fun y ρ2 => dc E ρ2 fun z ρ3 => getOf (some (.dat x)) y z fun w => Q w ρ3 := rfl
def updOf : Option Cell → D → (Addr → KD → Prop) → Prop
  | some (.ownK p ds), .dct ks es, k => ds.length + ks.length ≤ sizeLine ∧ k p (mergeD ds (ks.zip es))
  | _, _, _ => False
@[simp] theorem updOf_s {p : Addr} {ds : KD} {ks : List Key} {es : List D} {k : Addr → KD → Prop} : updOf (some (.ownK p ds)) (.dct ks es) k = (ds.length + ks.length ≤ sizeLine ∧ k p (mergeD ds (ks.zip es))) := rfl
@[simp] theorem dUpd_s : dUpd i d E ρ Q = ((∃ p ds, ρ[i]? = some (.ownK p ds)) ∧ d E ρ fun y ρ1 => updOf ρ1[i]? y fun p kds => Q .non (ρ1.set i (.ownK p kds))) := by
  unfold dUpd updOf
  congr 1
  congr 1
  funext y ρ1
  cases ρ1[i]? with
  | none => rfl
  | some c => cases c <;> first | rfl | (cases y <;> rfl)
end
end DL
/-! DLt1: the place of a thing in a tuple of the module -/
namespace DL
open PySem PySem.Spec PyProof.Rows L2

/-- a tuple of the module that has no attributes of its own -/
def KDn (K : PySem.W.Frag) (mg : Str → Option Value) (x : Str) (ds : List D) : Prop :=
  ∃ (a : Addr) (o : Obj), mg x = some (.ref a) ∧ K.lookup a = some o ∧ o.cls = .type "tuple" ∧ o.dict = none ∧ Rep K (fun _ => none) (.ref a) (.tup ds)
theorem kdn_tup {K : PySem.W.Frag} {mg : Str → Option Value} {x : Str} {a : Addr} {c : Data} {sl : Array (Option Value)} {ds : List D} (h : mg x = some (.ref a)) (l : K.lookup a = some ⟨.type "tuple", none, c, sl⟩) (r : Rep K (fun _ => none) (.ref a) (.tup ds)) : KDn K mg x ds :=
  ⟨a, _, h, l, rfl, rfl, r⟩
section
variable {X : Cx}
/-- t.index(y): the first place of an equal one -/
def rIndexTD (K : PySem.W.Frag) : V → List V → Hp → VK → Prop := fun x xs H Q => ∃ (a : Addr) (y : V) (d : PyData) (ds : List PyData) (j : Nat) (z : PyData), x = V.ref a ∧ xs = [y] ∧ Dp K H (V.ref a) (.tuple ds) ∧ Dp K H y d ∧
  SeqAt.shaped (.tuple ds) = true ∧ SeqAt.shaped d = true ∧ ds[j]? = some z ∧ PyData.eqv z d = true ∧ (∀ (m : Nat) (z' : PyData), m < j → ds[m]? = some z' → PyData.eqv z' d = false) ∧ Q (.int (j : Nat)) H
theorem mt_indexTD (hu : X.A.units + 65 < cLine) : MtR X "tuple.index" (rIndexTD X.K) := by
  intro pins s σ H x xs v us Q I rx rxs h
  obtain ⟨a, y, d, ds, j, z, rfl, rfl, hl, hy, sl, sd, hz, hzj, hno, q⟩ := h
  cases rx
  obtain ⟨uy, rfl, ry⟩ := vals1 rxs
  obtain ⟨bs, r1⟩ := Dp.reads I d y uy hy ry
  have hxs : PyData.canLayAll0 ds = true := SeqAt.canLay_of_shaped sl
  have hroom : X.A.units + 1 + min (PyData.depthAll ds) d.depth < cLine := room_in_shaped sd hu
  cases hl with
  | tup hs ha =>
    obtain ⟨its, rv, p, hlen⟩ := I.tuple hs
    obtain ⟨⟨cls, dd, data, sls⟩, ho, hc, n, hdt⟩ := p
    simp only at hc hdt
    subst hc hdt
    obtain ⟨as, h4⟩ := Dp.readsAll I ds _ its ha rv
    have hn : its.length = ds.length := SeqAt.ReadsAll.length ds its as h4
    have hmap : its.map (SeqAt.readOf s.heap) = ds := SeqAt.readsAll_map ds its as hxs h4
    obtain ⟨hjd, _⟩ := List.getElem?_eq_some_iff.mp hz
    have hj : j < its.toArray.size := by simp; omega
    have rd : ∀ (m : Nat) (hm : m < its.toArray.size) (w : PyData), ds[m]? = some w → SeqAt.readOf s.heap its.toArray[m] = w := fun m hm w e => by
      rw [← hmap, List.getElem?_map, List.getElem?_eq_getElem (by simpa using hm)] at e
      simpa using Option.some.inj e
    have ev := SeqAt.items_eqAt (A := X.A) (vs := its.toArray) (show ReadsAll s.heap its.toArray.toList ds as from h4) r1 hxs (SeqAt.canLay_of_shaped sd) hroom
    refine call_meets PySem.F.slot_tuple_index ⟨_, ho, rfl⟩ PySem.F.entry_tuple_index (PySem.F.args_tuple_index_2 _ _)
      (SeqAt.tuple_index2_found a its.toArray n dd sls uy (fun m => if hm : m < its.toArray.size then PyData.eqv (SeqAt.readOf s.heap its.toArray[m]) d else false) j hj (Nat.zero_le _) hj ?_ ?_) ⟨ho, ?_, ?_⟩
    · show (if hm : j < its.toArray.size then PyData.eqv (SeqAt.readOf s.heap its.toArray[j]) d else false) = true
      rw [dif_pos hj, rd j hj z hz]; exact hzj
    · intro m hm _ hmj
      show (if hm : m < its.toArray.size then PyData.eqv (SeqAt.readOf s.heap its.toArray[m]) d else false) = false
      have hmd : m < ds.length := by omega
      rw [dif_pos hm, rd m hm _ (List.getElem?_eq_getElem hmd)]
      exact hno m _ hmj (List.getElem?_eq_getElem hmd)
    · intro m hm
      rw [dif_pos hm]
      exact ev _ (Array.getElem_mem hm)
    · exact ⟨.int (j : Nat), H, I.tok _, ⟨_, rfl⟩, q⟩
end
/-- G.index(e), G a tuple of the module -/
def dIdxT (xs : List D) (db : DT) : DT := fun E ρ Q => db E ρ fun y ρ1 => D.plains xs = true ∧ D.deps xs ≤ 60 ∧ y.plain = true ∧ y.dep ≤ 60 ∧ ∃ j, idxD y xs = some j ∧ Q (.int (j : Nat)) ρ1
section
variable {X : Cx} {RK : Res → Prop} {W : WX} {b : Expr} {db : DT} {x : Str} {p1 p2 p3 : Pos} {xs : List D}
theorem de_idxT (hu : X.A.units + 65 < cLine) (hK : KDn X.K X.mg x xs) (hb : DE X RK W b db) (hg : Gl X x := by rfl) (hd : (x == ("__debug__" : Str)) = false := by decide) (hs : starEach (b :: []) X.env = (false, eval b X.env) :: starEach [] X.env := by rfl)
    (h1 : attributeBase (.Name x p1) "index" X.env (eval (.Name x p1) X.env) = eval (.Name x p1) X.env := by rfl) (h2 : (p2.endLine == p3.line) = true := by rfl)
    (h3 : ((backTo p3 (starEach [b] X.env)).all (fun x => !x.1) && (backToKw p3 (keywordEach [] X.env)).all (fun x => x.1.isSome) && decide ([b].length + ([] : List Keyword).length + (if ([] : List Keyword).isEmpty then 0 else 1) < 30)) = true := by rfl) :
    DE X RK W (.Call (.Attribute (.Name x p1) "index" p2) [b] [] p3) (dIdxT xs db) := by
  obtain ⟨a, o, hm, hl, hc, hdn, hr⟩ := hK
  refine pe_weak (pe_bm PySem.F.plainAttrs_tuple PySem.F.slot_tuple_index PySem.F.type_tuple_index (mt_indexTD hu) (pe_glob (v := .ref a) hg hm rfl hd) (pa_cons hb pa_nil hs) h1 h3 h2 hs (by rfl)) ?_
  rintro σ H Qh ⟨g, S, ρ, Q, E, R, h, hq, hx⟩
  refine ⟨.inr (.inl ⟨rfl, o, hl, hc, hdn⟩), g, S, ρ, _, E, R, h, fun u H2 S2 ρ2 y R2 e2 r2 q3 => ?_, hx⟩
  obtain ⟨f1, f2, f3, f4, j, hj, q4⟩ := q3
  unfold idxD at hj
  rw [List.findIdx?_eq_some_iff_getElem] at hj
  obtain ⟨hjl, hj1, hj2⟩ := hj
  have pl : (D.tup xs).plain = true := by simp only [D.plain]; exact f1
  have r1 : Rep X.K S2 (.ref a) (.tup xs) := hr.up (fun b o e => by cases e)
  have dl := Rep.dp (.tup xs) (.ref a) pl (r1.up R2.sub)
  have dy := Rep.dp y u f3 (r2.up R2.sub)
  simp only [D.py] at dl
  have gx : ∀ m (hm : m < xs.length), (D.pys xs)[m]? = some (D.py xs[m]) := fun m hm => by rw [pys_get, List.getElem?_eq_getElem hm]; rfl
  have px : ∀ m (hm : m < xs.length), (xs[m]).plain = true := fun m hm => plain_get f1 (List.getElem?_eq_getElem hm)
  refine ⟨a, u, y.py, D.pys xs, j, D.py xs[j], rfl, rfl, dl, dy, ?_, D.shaped_py f3 (by omega), gx j hjl, ?_, fun m z' hm hz' => ?_, hq _ H2 S2 ρ2 _ R2 e2 (.int _) q4⟩
  · have := D.shaped_py pl (by simp only [D.dep]; omega)
    simpa only [D.py] using this
  · rw [D.eqb_py _ _ (px j hjl) f3]; exact hj1
  · rw [gx m (by omega)] at hz'
    cases hz'
    rw [D.eqb_py _ _ (px m (by omega)) f3]
    have := hj2 m hm
    simpa using this
end
section
variable {E : EK} {ρ : Rho} {Q : D → Rho → Prop} {xs : List D} {db : DT}
@[simp] theorem dIdxT_s : dIdxT xs db E ρ Q = db E ρ fun y ρ1 => D.plains xs = true ∧ D.deps xs ≤ 60 ∧ y.plain = true ∧ y.dep ≤ 60 ∧ ∃ j, idxD y xs = some j ∧ Q (.int (j : Nat)) ρ1 := rfl
end
end DL
/-! DLl1: a lambda with one parameter that has a default: lambda of=0: body -/
namespace DL
open PySem PySem.Spec PyProof.Rows L2 LamX PySem.W

abbrev fnD (qual : Str) (params : Arguments) (body : Expr) (scope : Scope) (cl : List (Str × Addr)) (pm cdv ct dV : Value) : FuncData :=
  { kla_fn "<lambda>" qual params body scope cl pm cdv ct with defaults := dV }
abbrev objD (qual : Str) (params : Arguments) (body : Expr) (scope : Scope) (cl : List (Str × Addr)) (pm : Value) (c' : Addr) (ct dV : Value) : Obj :=
  { cls := .type "function", data := .func (fnD qual params body scope cl pm (.ref c') ct dV) }
section
variable {M : Model} {A : Around} {E : Value → Shared → Prop} {s : Shared} {qual : Str} {params : Arguments} {body : Expr} {scope : Scope} {env : Env} {c P : Addr} {ps : Array Value} {pos : Pos} {firstLine : Nat} {mg : Str → Option Value}
  {clos : List (Str × Addr)} {Q : Value → Shared → Prop} {dV : Value}
/-- the making's end: a new code object, or the one that is there -/
theorem tailD (hcl : closureFor scope env = pure clos) (hge0 : env.globals = mainGlobals) (hg : s.heap.Ns mainGlobals mg) (hcode : env.code = .ref c) (C : CodeHd s.heap c P) (hP : s.heap.get? P = some (tabObj ps)) (ht : TriplesOk ps.toList)
    (hgP : mainGlobals ≠ P) (hb : s.heap.BuiltinsAt mg P)
    (hit : ∀ c', codeAmong pos ps.toList = some (.ref c') → ∀ (ctv : Value) (h' : Heap) (tk : Tok), (∀ b o, s.heap.get? b = some o → h'.get? b = some o) → s.heap.objs.size ≤ h'.objs.size →
      Q (.ref h'.objs.size) { s with heap := h'.push (objD qual params body scope clos ((mg "__name__").getD .none) c' ctv dV), toks := tk })
    (hrf : ∀ cv, codeAmong pos ps.toList = some cv → ∃ c', cv = .ref c')
    (new : codeAmong pos ps.toList = none → ∀ c' ctv h' tk, Heap.ExtBut P s.heap h' → s.heap.objs.size ≤ c' → c' < h'.objs.size → h'.CodeRec (.ref c') qual → h'.get? P = some (tabObj (ps ++ #[rawInt pos.line, rawInt pos.col, .ref c'])) →
      Q (.ref h'.objs.size) { s with heap := h'.push (objD qual params body scope clos ((mg "__name__").getD .none) c' ctv dV), toks := tk }) :
    wpAny M A (makeTail "<lambda>" qual params (.expr body) scope env dV .none none pos firstLine) Q E s := by
  obtain ⟨bm, ob, hbm, hne0, _, hneP, hbo, hcls, hdict, hdata⟩ := hb
  unfold makeTail
  rw [hcl, hge0]
  refine wpAny_bind (wpAny_pure ?_)
  cases hca : codeAmong pos ps.toList with
  | some cv =>
    obtain ⟨c', rfl⟩ := hrf cv hca
    cases clos with
    | nil =>
      simp only [List.isEmpty_nil, if_true]
      refine wpAny_bind (wpAny_pure ?_)
      refine wpAny_bind (wpAny_functionCode_hit hcode (C.code hP ht) hca ?_)
      refine wpAny_bind (wpAny_builtinsFor hg hbm hne0 hbo hcls hdict hdata ?_)
      refine wpAny_bind (wpAny_nsGet hg ?_)
      exact wpAny_bind (wpAny_pure (wpAny_newObj_type (hit c' hca .none s.heap s.toks (fun _ _ e => e) (Nat.le_refl _)) (by size_fits)))
    | cons q r =>
      simp only [List.isEmpty_cons, Bool.false_eq_true, if_false]
      refine wpAny_bind (wpAny_newTextTuple ?_)
      refine wpAny_bind (wpAny_functionCode_hit hcode ((C.keeps fun b o e => Heap.get?_push_of_some _ e).code (Heap.get?_push_of_some _ hP) ht) hca ?_)
      refine wpAny_bind (wpAny_builtinsFor (hg.push _) hbm hne0 (Heap.get?_push_of_some _ hbo) hcls hdict hdata ?_)
      refine wpAny_bind (wpAny_nsGet (hg.push _) ?_)
      exact wpAny_bind (wpAny_pure (wpAny_newObj_type (hit c' hca _ _ s.toks (fun b o e => Heap.get?_push_of_some _ e) (by rw [Heap.size_push]; omega)) (by size_fits)))
  | none =>
    cases clos with
    | nil =>
      simp only [List.isEmpty_nil, if_true]
      refine wpAny_bind (wpAny_pure ?_)
      refine wpAny_bind (wpAny_functionCodeX hcode (C.code hP ht) (C.tab hP) hca fun c' h' tk hx hge hlt _ hrec htb _ => ?_)
      have hg' := hg.extBut hx hgP
      refine wpAny_bind (wpAny_builtinsFor hg' hbm hne0 (hx _ _ hneP hbo) hcls hdict hdata ?_)
      refine wpAny_bind (wpAny_nsGet hg' ?_)
      exact wpAny_bind (wpAny_pure (wpAny_newObj_type (new hca c' .none h' tk hx hge hlt hrec htb.2) (by size_fits)))
    | cons q r =>
      simp only [List.isEmpty_cons, Bool.false_eq_true, if_false]
      refine wpAny_bind (wpAny_newTextTuple ?_)
      refine wpAny_bind (wpAny_functionCodeX hcode ((C.keeps fun b o e => Heap.get?_push_of_some _ e).code (Heap.get?_push_of_some _ hP) ht) ((C.keeps fun b o e => Heap.get?_push_of_some _ e).tab (Heap.get?_push_of_some _ hP)) hca fun c' h' tk hx hge hlt _ hrec htb _ => ?_)
      have hg' := (hg.push _).extBut hx hgP
      have hx' : Heap.ExtBut P s.heap h' := fun b o hb' e => hx b o hb' (Heap.get?_push_of_some _ e)
      refine wpAny_bind (wpAny_builtinsFor hg' hbm hne0 (hx' _ _ hneP hbo) hcls hdict hdata ?_)
      refine wpAny_bind (wpAny_nsGet hg' ?_)
      exact wpAny_bind (wpAny_pure (wpAny_newObj_type (new hca c' _ h' tk hx' (Nat.le_trans (by rw [Heap.size_push]; omega) hge) hlt hrec htb.2) (by size_fits)))
/-- lambda of=i: body -/
theorem evalD {i : Int} {j : Nat} {p : Pos} (hdef : defaultsOf params env = ([eval (.Constant (.int i) j p) env], []))
    (h : ∀ t tk, wpAny M A (makeTail "<lambda>" (env.qual ++ "<lambda>") params (.expr body) scope env (.ref s.heap.objs.size) .none none pos pos.line) Q E { s with heap := s.heap.push { cls := .type "tuple", data := .seq #[.int i t] }, toks := tk }) :
    wpAny M A (eval (.Lambda params body scope pos) env) Q E s := by
  rw [arm_eval_Lambda, hdef]
  show wpAny M A (do let dv ← evalAll [eval (.Constant (.int i) j p) env]; let kdv ← holding dv (evalAllOpt []); makeFunction "<lambda>" (env.qual ++ "<lambda>") params (.expr body) scope env dv kdv [] pos pos.line) Q E s
  unfold evalAll
  refine wpAny_bind (wpAny_bind (wpAny_Constant_int ?_))
  refine wpAny_bind (wpAny_holding (wpAny_pure (wpAny_pure ?_)))
  refine wpAny_bind (wpAny_holding (wpAny_pure ?_))
  rw [makeFunction_eq]
  simp only [List.zip_nil_right, List.filterMap_nil, List.isEmpty_nil, List.isEmpty_cons, if_true, pure_bind, Bool.false_eq_true, if_false]
  refine wpAny_bind (wpAny_newTextTuple ?_)
  exact h _ _
end

/-! ### the making -/
abbrev tupD (v : Value) : Obj := { cls := .type "tuple", data := .seq #[v] }
section
variable {X : Cx} {pins : List (Addr × Obj)} {σ : L2.St} {S H : Hp} {s : Shared}
theorem lam_mkD {c P : Addr} {params : Arguments} {body : Expr} {scope : Scope} {pos : Pos} {i : Int} {j : Nat} {p : Pos} {E : Value → Shared → Prop} {Q : Value → Shared → Prop} {ps : Array Value} (I : Inv X pins σ H s) (TB : TabB X.base X.mg c P) (hcode : X.env.code = .ref c) (sub : Same S H)
    (hP : H P = some (.tbl ps)) (ht : TriplesOk ps.toList) (ha : ∀ (pos : Pos) (cv : Value), codeAmong pos ps.toList = some cv → ∃ c, cv = .ref c ∧ S c = some (CodeO c (X.env.qual ++ "<lambda>")))
    (hdef : defaultsOf params X.env = ([eval (.Constant (.int i) j p) X.env], [])) (hfree : ∀ y ∈ scope.names, y.2 = .free → ∃ c, X.env.cells.lookup y.1 = some c)
    (h : ∀ (f c' T : Addr) (t : Tok) (pm ctv : Value) (S1 H1 : Hp) (s' : Shared), Inv X pins σ H1 s' → LamH S H S1 H1 P (X.env.qual ++ "<lambda>") ps →
      s'.heap.get? f = some (objD (X.env.qual ++ "<lambda>") params body scope (cloFrom X.env.cells scope.names []) pm c' ctv (.ref T)) → H1 f = none → f ∉ frs X.stack → H1 c' = some (CodeO c' (X.env.qual ++ "<lambda>")) →
      s'.heap.get? T = some (tupD (.int i t)) → H1 T = none → T ∉ frs X.stack → Q (.ref f) s') :
    wpAny (model X.prog X.w) X.A (eval (.Lambda params body scope pos) X.env) Q E s := by
  refine evalD hdef fun t tk => ?_
  have nofr0 : ∀ f, s.heap.objs.size ≤ f → f ∉ frs X.stack := fun f hf z => by
    rcases List.mem_cons.mp (I.stkSub _ z) with e | e
    · have h1 := I.lt
      rw [← e] at h1
      exact Nat.lt_irrefl _ (Nat.lt_of_lt_of_le h1 hf)
    · exact I.nofs hf e
  have I0 : Inv X pins σ H { s with heap := s.heap.push (tupD (.int i t)), toks := tk } := I.kept fun b o e => Heap.get?_push_of_some _ e
  have hT0 : (s.heap.push (tupD (.int i t))).get? s.heap.objs.size = some (tupD (.int i t)) := Heap.get?_push_size _ rfl
  have hTH : H s.heap.objs.size = none := I.hok.fresh (Nat.le_refl _)
  have bP := TB.bm.keeps I0.bk
  have hP0 : (s.heap.push (tupD (.int i t))).get? P = some { cls := .none, data := .fields ps } := I0.hok P _ hP
  have ltP : P < s.heap.objs.size := Heap.lt_size (I.hok P _ hP)
  have sz0 : (s.heap.push (tupD (.int i t))).objs.size = s.heap.objs.size + 1 := Heap.size_push ..
  refine tailD (mg := X.mg) (c := c) (P := P) (ps := ps) (closure_ok hfree) I0.ok.glob (I0.mod.glob.keeps I0.bk) hcode (TB.code.keeps I0.bk) hP0 ht TB.gP bP ?_ ?_ ?_
  · intro c' hc ctv h' tk' hx hsz
    have hsz : (s.heap.push (tupD (.int i t))).objs.size ≤ h'.objs.size := hsz
    obtain ⟨c2, e, hco⟩ := ha pos _ hc
    cases e
    have I1 : Inv X pins σ H { s with heap := h'.push (objD (X.env.qual ++ "<lambda>") params body scope (cloFrom X.env.cells scope.names []) ((X.mg "__name__").getD .none) c' ctv (.ref s.heap.objs.size)), toks := tk' } := I0.kept fun b o e => Heap.get?_push_of_some _ (hx b o e)
    exact h h'.objs.size c' s.heap.objs.size t ((X.mg "__name__").getD .none) ctv S H _ I1 (.inl ⟨rfl, rfl⟩) (Heap.get?_push_size _ rfl) (I.hok.fresh (by omega)) (nofr0 _ (by omega)) (sub _ _ hco) (Heap.get?_push_of_some _ (hx _ _ hT0)) hTH (nofr0 _ (Nat.le_refl _))
  · intro cv hc
    obtain ⟨c2, e, _⟩ := ha pos _ hc
    exact ⟨c2, e⟩
  · intro hc c' ctv h' tk' hx hge hlt hrec htb
    have hge : (s.heap.push (tupD (.int i t))).objs.size ≤ c' := hge
    obtain ⟨c2, oc, vs, t2, e2, hoc, hd, hv⟩ := hrec
    cases e2
    have hsz0 : s.heap.objs.size ≤ c' := Nat.le_trans (by rw [sz0]; exact Nat.le_succ _) hge
    have hsz : s.heap.objs.size ≤ h'.objs.size := Nat.le_trans hsz0 (Nat.le_of_lt hlt)
    have nC : H c' = none := I.hok.fresh hsz0
    have I1 := inv_table (t' := tk') (more := #[rawInt pos.line, rawInt pos.col, .ref c']) (h' := h'.push (objD (X.env.qual ++ "<lambda>") params body scope (cloFrom X.env.cells scope.names []) ((X.mg "__name__").getD .none) c' ctv (.ref s.heap.objs.size))) I0 hP
      (fun b o hb e => Heap.get?_push_of_some _ (hx b o hb e)) (Heap.get?_push_of_some _ htb) hge ⟨oc, vs, t2, Heap.get?_push_of_some _ hoc, hd, hv⟩
    have eL : (ps ++ #[rawInt pos.line, rawInt pos.col, .ref c']).toList = ps.toList ++ [rawInt pos.line, rawInt pos.col, .ref c'] := by simp
    have nTc : s.heap.objs.size ≠ c' := Nat.ne_of_lt (Nat.lt_of_lt_of_le (by rw [sz0]; exact Nat.lt_succ_self _) hge)
    have nTP : s.heap.objs.size ≠ P := Nat.ne_of_gt ltP
    refine h h'.objs.size c' s.heap.objs.size t ((X.mg "__name__").getD .none) ctv (upd S c' (CodeO c' (X.env.qual ++ "<lambda>"))) _ _ I1 (.inr ⟨c', _, nC, rfl, rfl, ?_, fun p' cv hcv => ?_⟩) (Heap.get?_push_size _ rfl) ?_ (nofr0 _ hsz) upd_same (Heap.get?_push_of_some _ (hx _ _ nTP hT0)) ?_ (nofr0 _ (Nat.le_refl _))
    · rw [eL]; exact PySem.TriplesOk_snoc _ _ _ _ ht
    · rw [eL] at hcv
      exact among_app _ ht hcv
    · have n1 : h'.objs.size ≠ c' := Nat.ne_of_gt hlt
      have n2 : h'.objs.size ≠ P := Nat.ne_of_gt (Nat.lt_of_lt_of_le ltP hsz)
      rw [upd_ne n1, upd_ne n2]
      exact I.hok.fresh hsz
    · rw [upd_ne nTc, upd_ne nTP]; exact hTH
end

/-! ### the lambda's names: captured ones, globals, its own parameter, which is no name around -/
structure LamSD (N : List Str) (sc scope : Scope) : Prop where
  kind : scope.kind = .function
  co : scope.isCoroutine = false
  gen : scope.isGenerator = false
  own : ∀ y ∈ scope.names, y.2 ≠ .cell ∧ (y.2 = .local → y.1 ∉ N)
  free : ∀ y ∈ scope.names, y.2 = .free → sc.names.lookup y.1 = some .cell ∨ sc.names.lookup y.1 = some .free
def lamSDB (N : List Str) (sc scope : Scope) : Bool :=
  decide (scope.kind = .function) && !scope.isCoroutine && !scope.isGenerator && scope.names.all fun y => !decide (y.2 = .cell) && (!decide (y.2 = .local) || !decide (y.1 ∈ N)) && (!decide (y.2 = .free) || decide (sc.names.lookup y.1 = some .cell) || decide (sc.names.lookup y.1 = some .free))
theorem lamSD_by {N : List Str} {sc scope : Scope} (h : lamSDB N sc scope = true) : LamSD N sc scope := by
  unfold lamSDB at h
  simp only [Bool.and_eq_true, Bool.or_eq_true, Bool.not_eq_true', decide_eq_true_eq, decide_eq_false_iff_not, List.all_eq_true] at h
  obtain ⟨⟨⟨h1, h2⟩, h3⟩, h4⟩ := h
  refine ⟨h1, h2, h3, fun y hy => ⟨(h4 y hy).1.1, fun e => (h4 y hy).1.2.elim (fun z => absurd e z) id⟩, fun y hy e => ?_⟩
  rcases (h4 y hy).2 with (z | z) | z
  · exact absurd e z
  · exact .inl z
  · exact .inr z
theorem LamSD.has {X : Cx} {N : List Str} {scope : Scope} (L : LamSD N X.env.scope scope) (ok : X.Ok) : ∀ y ∈ scope.names, y.2 = .free → ∃ c, X.env.cells.lookup y.1 = some c := fun y hy e => by
  rcases L.free y hy e with k | k
  · exact ok.has _ (.inl k)
  · exact ok.has _ (.inr k)
section
variable {X : Cx} {pins : List (Addr × Obj)} {σ : L2.St} {H HZ : Hp} {s s1 : Shared}
theorem lam_startD {A : Around} {outer : List Env} {E : XK} {scope : Scope} {f c' : Addr} {h₁ : Heap} {tk : Nat} {m0 : Str → Option Value} (I : Inv X pins σ H s) (L : LamSD X.N X.env.scope scope) (e0 : Env0 X.prog X.w X.K X.mg X.base A outer s1 HZ) (hd : A.handled = none)
    (un : Un (frs X.stack) [] H HZ s.heap s1.heap) (hns : h₁.Ns s1.heap.objs.size m0) (kp : ∀ b o, s1.heap.get? b = some o → h₁.get? b = some o) :
    Inv (lamCx X A outer s1 HZ E scope f c') [] σ HZ { s1 with heap := h₁, toks := tk } := by
  have hfree := L.has I.ok
  have cm : ∀ {y c}, (cloFrom X.env.cells scope.names []).lookup y = some c → X.env.cells.lookup y = some c := fun {y c} e => by
    rcases cloFrom_mem (PySem.mem_of_lookup e) with hm | ⟨h1, h2⟩
    · cases hm
    · obtain ⟨c1, hc⟩ := hfree _ h1 rfl
      have hc : X.env.cells.lookup y = some c1 := hc
      have e2 : c = c1 := by
        rw [h2, hc] <;> rfl
      rw [e2]
      exact hc
  have look : ∀ {y}, scope.names.lookup y = some .free → ∃ c, (cloFrom X.env.cells scope.names []).lookup y = some c := fun {y} hl => by
    have hy : (y, NameKind.free) ∈ scope.names := PySem.mem_of_lookup hl
    exact mem_lookup (cloFrom_has (cells := X.env.cells) (acc := []) hy)
  have cellK : ∀ {c : Addr} {v : Option Value}, H c = none → s.heap.IsCell c v → h₁.IsCell c v := fun {c v} n ⟨o, ho, hd⟩ => by
    obtain ⟨sl, q⟩ := un.any ho n (by simp)
    exact ⟨_, kp _ _ q, hd⟩
  have noA : ∀ b : Addr, b ∉ (lamCx X A outer s1 HZ E scope f c').ex := fun b z => absurd (show b ∈ ([] : List Addr) from z) (by simp)
  refine ⟨⟨e0.mod, L.kind, rfl, rfl, Nat.le_refl _, fun y z c e1 e2 => I.ok.inj y z c (cm e1) (cm e2), fun y hy => ?_, fun y c z _ => ?_, fun _ => hd, Around.frames_deeper e0.frames, .inr ⟨rfl, rfl⟩, fun b z => absurd z (noA b), e0.bs, e0.bsz, fun b _ _ => noA b,
      fun b z => absurd z (noA b), e0.funs, e0.frf⟩,
    rfl, e0.bare, Un.kept kp, ⟨_, hns, fun i y v e1 e2 e3 => ?_⟩, fun y c e => ?_, e0.hok.fresh (Nat.le_refl _), fun y c e => ?_, fun q hq => absurd (show q ∈ ([] : List (Addr × Obj)) ++ [] from hq) (by simp), e0.hok.kept kp, I.len⟩
  · have hy : scope.names.lookup y = some .cell ∨ scope.names.lookup y = some .free := hy
    rcases hy with hy | hy
    · exact absurd rfl (L.own _ (PySem.mem_of_lookup hy)).1
    · exact look hy
  · have z : false = true := z
    cases z
  · have e3 : Vis scope y := e3
    have e1 : X.N[i]? = some y := e1
    rcases e3 with k | k | k
    · exact absurd (List.mem_of_getElem? e1) ((L.own _ (PySem.mem_of_lookup k)).2 rfl)
    · exact absurd rfl (L.own _ (PySem.mem_of_lookup k)).1
    · obtain ⟨m, hn, hl⟩ := I.loc
      have hvis : Vis X.env.scope y := (L.free _ (PySem.mem_of_lookup k) rfl).elim (fun k => .inr (.inl k)) (fun k => .inr (.inr k))
      obtain ⟨w', r, q⟩ := hl i y v e1 e2 hvis
      obtain ⟨c2, h2⟩ := look k
      refine ⟨w', r, .inr ⟨.inr k, c2, h2, ?_⟩⟩
      have c1 := cm h2
      rcases q with ⟨k', _⟩ | ⟨_, c3, e', z⟩
      · have k' : X.env.scope.names.lookup y = some .local := k'
        rcases L.free _ (PySem.mem_of_lookup k) rfl with k2 | k2 <;> rw [show X.env.scope.names.lookup y = _ from k2] at k' <;> cases k'
      · rw [c1] at e'
        cases e'
        exact cellK (I.freeC y _ c1) z
  · obtain ⟨w', z⟩ := I.cell y c (cm e)
    exact ⟨w', cellK (I.freeC y c (cm e)) z⟩
  · obtain ⟨v, o, ho, hd⟩ := I.cell y c (cm e)
    exact un.free c o ho (I.freeC y c (cm e)) (by simp)
/-- x(), in the def that got the lambda -/
theorem pe_actD {CXg : CXT} {Eg : XK} {Ng : List Str} {qg : Str} {sg : Scope} {g f c' T : Addr} {cdg pm ctv : Value} {params : Arguments} {body : Expr} {scope : Scope} {k : Nat} {γ : Bool} {a of_ : Str} {v : Value} {pn : List (Addr × Obj)} {xe : Value → Shared → Prop} {W : WX} {tb : XK → TE} {p1 p2 : Pos}
    (I : Inv X pins σ H s) (L : LamSD X.N X.env.scope scope) (hf : s.heap.get? f = some (objD (X.env.qual ++ "<lambda>") params body scope (cloFrom X.env.cells scope.names []) pm c' ctv (.ref T))) (hfn : H f = none) (hfr : f ∉ frs X.stack)
    (hT : s.heap.get? T = some (tupD v)) (hTn : H T = none) (hTf : T ∉ frs X.stack)
    (hbind : ∃ kk, bindArgs (fnD (X.env.qual ++ "<lambda>") params body scope (cloFrom X.env.cells scope.names []) pm (.ref c') ctv (.ref T)) ⟨[], []⟩ = seqItems? (.ref T) >>= kk ∧ kk (some #[v]) = pure [(of_, v)]) (hof : scope.names.lookup of_ = some .local)
    (tk : Takes ((cxOf CXg X.prog X.w X.K X.mg X.base Ng qg sg g cdg X.A X.stack s H Eg).tr pn xe) W) (hr : Room (k + 1) (X.A.deeper (envOfC qg sg s.heap.objs.size g cdg))) (hgd : GdB γ X.A)
    (hbody : ∀ (A : Around) (outer : List Env) (s : Shared) (H : Hp) (E : XK), Room k (A.deeper (lamEnv X scope s.heap.objs.size f c')) → GdB γ (A.deeper (lamEnv X scope s.heap.objs.size f c')) → PE (lamCx X A outer s H E scope f c') body (tb E))
    (hN : Ng[0]? = some a) (hv : Vis sg a) (hd : (a == ("__debug__" : Str)) = false := by decide) (hcd : (a == ("__classdict__" : Str)) = false := by decide) :
    PE ((cxOf CXg X.prog X.w X.K X.mg X.base Ng qg sg g cdg X.A X.stack s H Eg).tr pn xe) (.Call (.Name a p1) [] [] p2) (tAct f c' (X.env.qual ++ "<lambda>") W fun E HZ Q => tb E σ HZ Q) := by
  constructor
  intro pinsZ sZ σZ HZ Q IZ h
  obtain ⟨hs, hc, ht⟩ := h
  apply wpAny_Call_Name_kw
  refine thn ((pe_var (pos := p1) (i := 0) hN hv hd hcd).run pinsZ sZ σZ HZ (fun v H1 => v = .ref f ∧ H1 = HZ) IZ ⟨.ref f, hs, rfl, rfl⟩) fun u s1 ⟨v0, H1, I1, r1, q1⟩ => ?_
  obtain ⟨ev, eH⟩ := q1
  subst ev
  subst eH
  obtain rfl : u = Value.ref f := r1
  have of1 : s1.heap.get? f = some (objD (X.env.qual ++ "<lambda>") params body scope (cloFrom X.env.cells scope.names []) pm c' ctv (.ref T)) := I1.base.keep f _ hf hfn hfr (fun z => nomatch (show f ∈ ([] : List Addr) from z))
  have oT1 : s1.heap.get? T = some (tupD v) := I1.base.keep T _ hT hTn hTf (fun z => nomatch (show T ∈ ([] : List Addr) from z))
  refine PySem.W.callWith_F0 ⟨_, _, _, _, of1⟩ ?_
  have un : Un (frs X.stack) [] H H1 s.heap s1.heap := I1.base
  obtain ⟨⟨oc, vs, t, hoc, hdc, hvc⟩, _, _⟩ := I1.hok c' _ hc
  have rc : codeAny (model X.prog X.w) (X.A.deeper (envOfC qg sg s.heap.objs.size g cdg)) (.call (.ref f) ⟨[], []⟩) (CR (L2.CX X.prog X.w) (envOfC qg sg s.heap.objs.size g cdg :: X.stack) X.prog X.w H1 s1 Q (WE W σZ)) s1 := by
    apply PySem.W.kla_callFunE hr.depth of1 rfl L.co L.gen rfl ⟨c', oc, vs, t, rfl, hoc, hdc, hvc⟩
    obtain ⟨kk, hb1, hb2⟩ := hbind
    rw [hb1]
    refine wpAny_bind (wpAny_seqItems oT1 rfl ?_)
    rw [hb2]
    refine wpAny_pure (wpAny_newFunctionEnv (fun y hy => (L.own y hy).1) (fun y hy => by rw [List.mem_singleton.mp hy]; exact hof) (fun h₁ hns hsb => ⟨I1.nolimit.fresh _ hsb, ?_⟩) L.kind)
    show codeAny _ _ (.expr body (lamEnv X scope s1.heap.objs.size f c')) _ _
    have kp : ∀ b o, s1.heap.get? b = some o → h₁.get? b = some o := fun b o e => hsb.extBut b o (Nat.ne_of_lt (Heap.lt_size e)) (Heap.get?_push_of_some _ e)
    have J := lam_startD (A := X.A.deeper (envOfC qg sg s.heap.objs.size g cdg)) (outer := envOfC qg sg s.heap.objs.size g cdg :: X.stack) (E := WE W σZ) (c' := c') (f := f) (tk := s1.toks + ([(of_, v)] : List (Str × Value)).length) I L I1.env0 hr.hd un hns kp
    refine PySem.W.kla_codeExpr (wpAny_mono ((hbody _ _ s1 H1 _ (hr.deeper _) hgd).run [] _ _ H1 Q J ht) (fun v s' hq => ?_) fun e s' hq => hq)
    obtain ⟨w', H', J', rv, q⟩ := hq
    exact ⟨w', H', J'.os, J'.bare, J'.base, J'.hok, rv, q⟩
  apply wpAny_call
  apply codeAny_mono rc
  intro r s' hq
  cases r with
  | error e => exact passAt tk σZ pinsZ H1 s1 e s' I1 hq
  | ok fl =>
    cases fl with
    | ret u => exact I1.after hq
    | next => exact False.elim hq
    | brk => exact False.elim hq
    | cont => exact False.elim hq
end

section
variable {X : Cx}
/-- x(lambda of=i: body) -/
theorem pe_wordD {T : WSp} {x of_ : Str} {c P : Addr} {k : Nat} {γ : Bool} {params : Arguments} {body : Expr} {scope : Scope} {t : XK → TE} {i : Int} {j : Nat} {dp : Pos} {p lpos pos : Pos} (C : CanW X.prog X.w X.K X.mg X.base x T) (hg : Gl X x) (TB : TabB X.base X.mg c P) (hcode : X.env.code = .ref c) (hr : Room (k + 2) X.A) (hk : 1 ≤ k) (hgd : GdB γ X.A)
    (L : LamSD X.N X.env.scope scope) (hdef : defaultsOf params X.env = ([eval (.Constant (.int i) j dp) X.env], [])) (hof : scope.names.lookup of_ = some .local)
    (hbind : ∀ (q : Str) (cl : List (Str × Addr)) (pm cv ctv : Value) (T : Addr) (v : Value), ∃ kk, bindArgs (fnD q params body scope cl pm cv ctv (.ref T)) ⟨[], []⟩ = seqItems? (.ref T) >>= kk ∧ kk (some #[v]) = pure [(of_, v)])
    (hbody : ∀ (A : Around) (outer : List Env) (s : Shared) (H : Hp) (E : XK) (f c' : Addr), Room k (A.deeper (lamEnv X scope s.heap.objs.size f c')) → GdB γ (A.deeper (lamEnv X scope s.heap.objs.size f c')) → PE (lamCx X A outer s H E scope f c') body (t E))
    (mono : ∀ σ, MonoL fun E H Q => t E σ H Q) (hdb : (x == ("__debug__" : Str)) = false := by decide) : PE X (.Call (.Name x p) [.Lambda params body scope lpos] [] pos) (tLamW X.K P (X.env.qual ++ "<lambda>") T t) := by
  obtain ⟨g, od, an, oc, dV, kV, doc, pm, cdv, ct, osl, pg, bg, sg, Ng, a, hm, hkp, lk, hcg, hb, Sg, hNg, hva, hd, hcd, G⟩ := C.ex
  constructor
  intro pins s σ H Q I h
  obtain ⟨S, ps, sub, hP, ht, hc, h⟩ := h
  apply wpAny_Call_Name_kw
  apply ld_glob I hg hm _ hdb
  refine PySem.W.callWith_K (h₀ := X.base) I.ok.mod.kin hkp ?_ (by rfl) (by rfl)
  show wpAny _ _ (spliced ((false, eval (.Lambda params body scope lpos) X.env) :: backTo pos (starEach [] X.env))) _ _ s
  refine Calls.spliced_cons (lam_mkD I TB hcode sub hP ht hc hdef (L.has I.ok) fun f c' T1 tk1 pm' ctv S1 H1 s' I1 lh hf hfn hfr hco hT hTn hTf => ?_)
  refine Calls.spliced_nil ⟨I1.kIn, ?_⟩
  have rc : codeAny (model X.prog X.w) X.A (.call (.ref g) ⟨[.ref f], []⟩) (CR C8.CX0 X.stack X.prog X.w H1 s' Q C8.E0) s' := by
    refine run_ofS (k := k + 1) (N := Ng) (ps := [a]) (us := [.ref f]) (vs := [.ref f]) lk hcg Sg hr I1.env0 (hb s' [.ref f] I1.kIn rfl) (.cons rfl .nil) rfl fun hr' => ?_
    obtain ⟨t', ht', hq'⟩ := G X.A X.stack f c' (X.env.qual ++ "<lambda>") s' H1 Q (fun E H' Q' => t E σ H' Q') (hr'.mono (by omega)) (fun W pn xe p1 p2 tk => pe_actD I1 L hf hfn hfr hT hTn hTf (hbind _ _ _ _ _ _ _) hof tk hr' hgd (fun A outer s H E hr2 hg2 => hbody A outer s H E f c' hr2 hg2) hNg hva hd hcd) hco (mono σ) (h S1 H1 lh)
    exact ⟨t', ht'.nox, hq'⟩
  apply wpAny_call
  apply codeAny_mono rc
  intro r s2 hq
  cases r with
  | error e => exact (show False from hq).elim
  | ok fl =>
    cases fl with
    | ret u => exact I1.after hq
    | next => exact False.elim hq
    | brk => exact False.elim hq
    | cont => exact False.elim hq
variable {W : WX} {inv : List D → Prop} {Tb : List (Addr × Str)}
theorem de_wordD {T : WSp} {x of_ : Str} {c P : Addr} {k : Nat} {γ : Bool} {params : Arguments} {body : Expr} {scope : Scope} {i : Int} {j : Nat} {dp : Pos} {d : DT} {p lpos pos : Pos} (C : CanW X.prog X.w X.K X.mg X.base x T) (mT : MonoW T) (TB : TabB X.base X.mg c P) (hm : (P, X.env.qual ++ "<lambda>") ∈ Tb) (hu : ∀ t ∈ Tb, t.1 = P → t.2 = X.env.qual ++ "<lambda>")
    (hr : Room (k + 2) X.A) (hk : 1 ≤ k) (hgd : GdB γ X.A) (L : LamSD X.N X.env.scope scope)
    (hbody : ∀ (A : Around) (outer : List Env) (s : Shared) (H : Hp) (E : XK) (f c' : Addr), Room k (A.deeper (lamEnv X scope s.heap.objs.size f c')) → GdB γ (A.deeper (lamEnv X scope s.heap.objs.size f c')) →
      DE (lamCx X A outer s H E scope f c') (tRK X.K inv Tb) (fun cls dd _ H' => E cls dd H') body d) (hg : Gl X x := by rfl) (hcode : X.env.code = .ref c := by rfl) (hdef : defaultsOf params X.env = ([eval (.Constant (.int i) j dp) X.env], []) := by rfl)
    (hof : scope.names.lookup of_ = some .local := by rfl)
    (hbind : ∀ (q : Str) (cl : List (Str × Addr)) (pm cv ctv : Value) (T : Addr) (v : Value), ∃ kk, bindArgs (fnD q params body scope cl pm cv ctv (.ref T)) ⟨[], []⟩ = seqItems? (.ref T) >>= kk ∧ kk (some #[v]) = pure [(of_, v)] := by intros; exact ⟨_, rfl, rfl⟩)
    (hdb : (x == ("__debug__" : Str)) = false := by decide) : DE X (tRK X.K inv Tb) W (.Call (.Name x p) [.Lambda params body scope lpos] [] pos) (dWord T d) := by
  refine pe_weak (pe_wordD (t := fun E => liftE X.K (tRK X.K inv Tb) (fun cls dd _ H' => E cls dd H') d) C hg TB hcode hr hk hgd L hdef hof hbind (fun A outer s H E f c' a b => hbody A outer s H E f c' a b) (fun σ E E' H Q Q' he hq h => ?_) hdb) ?_
  · obtain ⟨g, S, ρ, Q0, E0, R, h1, h2, h3⟩ := h
    exact ⟨g, S, ρ, Q0, E0, R, h1, fun v H' S' ρ' x R' e r q => hq _ _ (h2 v H' S' ρ' x R' e r q), fun cls dd σ' H' S' ρ' x R' e r q => he _ _ _ (h3 cls dd σ' H' S' ρ' x R' e r q)⟩
  · rintro σ H Qh ⟨g, S, ρ, Q, E, R, h, hq, hx⟩
    have ok := R.res
    obtain ⟨p0, ep⟩ := R.rk
    rw [ep] at ok
    obtain ⟨ps, hP, ht, hc⟩ := ok.2 _ hm
    refine ⟨S, ps, R.sub, hP, ht, hc, fun S1 H1 l => ?_⟩
    obtain ⟨R1, e1⟩ := er_lam R hm hu hP hc l
    refine ⟨g, S1, ρ, _, _, R1, h, fun v H' S' ρ' z R' e' r' q' => ⟨S', z, R'.sub, R'.nt, r', mT _ _ _ (fun y q v2 H2 S2 a1 a2 a3 a4 a5 a6 => ?_) q'⟩, fun cls dd σ' H' S' ρ' z R' e' r' q' => ?_⟩
    · exact hq v2 H2 S2 ρ' y (er_post R' a1 a2 a3 a4 a5) ((e1.trans e').trans a2) a6 q
    · obtain ⟨rfl, q'⟩ := q'
      refine ⟨S', z, R'.sub, R'.nt, r', mT _ _ _ (fun y q v2 H2 S2 a1 a2 a3 a4 a5 a6 => ?_) q'⟩
      exact hq v2 H2 S2 ρ' y (er_post (er_back R1 R' e') a1 a2 a3 a4 a5) ((e1.trans e').trans a2) a6 q
end

/-! ### within a comprehension's block -/
theorem lamS_relabel {sc scope : Scope} {env : Env} (h : LamS sc scope) : LamS (relabel sc env) scope :=
  ⟨h.kind, h.co, h.gen, h.own, fun y hy e => lookup_relabel (h.free y hy e)⟩
theorem lamSD_relabel {N : List Str} {sc scope : Scope} {env : Env} (h : LamSD N sc scope) : LamSD N (relabel sc env) scope :=
  ⟨h.kind, h.co, h.gen, h.own, fun y hy e => lookup_relabel (h.free y hy e)⟩
/-! ### joined texts -/
/-- s.join(e), e a list of texts -/
def joinOf : D → D → (D → Prop) → Prop
  | .str a, .lst xs, k => ∃ ys : List Str, xs = ys.map D.str ∧ (ys.map (·.length)).sum + ys.length * a.length ≤ 16777216 ∧ k (.str (Txt.join a ys))
  | _, _, _ => False
@[simp] theorem joinOf_s {a : Str} {xs : List D} {k : D → Prop} : joinOf (.str a) (.lst xs) k = ∃ ys : List Str, xs = ys.map D.str ∧ (ys.map (·.length)).sum + ys.length * a.length ≤ 16777216 ∧ k (.str (Txt.join a ys)) := rfl
@[simp] def dJoin (da db : DT) : DT := fun E ρ Q => da E ρ fun x ρ1 => (∃ a, x = .str a) ∧ db E ρ1 fun y ρ2 => joinOf x y fun z => Q z ρ2
section
variable {X : Cx} {RK : Res → Prop} {W : WX} {o e : Expr} {da db : DT} {apos pos : Pos}
theorem de_join (ha : DE X RK W o da) (hb : DE X RK W e db) (hs : starEach [e] X.env = [(false, eval e X.env)] := by rfl) (hbase : attributeBase o "join" X.env (eval o X.env) = eval o X.env := by rfl) (hline : (apos.endLine == pos.line) = true := by rfl) :
    DE X RK W (.Call (.Attribute o "join" apos) [e] [] pos) (dJoin da db) := pe_weak (pe_join ha hb hs hbase hline) (by
  rintro σ H Qh ⟨g, S, ρ, Q, E, R, h, hq, hx⟩
  refine ⟨g, S, ρ, _, E, R, h, fun u1 H1 S1 ρ1 x R1 e1 r1 q1 => ?_, hx⟩
  obtain ⟨⟨a, rfl⟩, q1⟩ := q1
  cases r1
  refine ⟨⟨a, rfl⟩, g, S1, ρ1, _, E, R1, q1, fun u2 H2 S2 ρ2 y R2 e2 r2 q2 => ?_, hx.up e1⟩
  cases y with
  | lst xs =>
    obtain ⟨ys, rfl, hz, q⟩ := q2
    cases r2 with
    | @lst p vs _ b1 b2 =>
      have ev := Reps.strs b2
      subst ev
      exact ⟨a, p, ys, rfl, rfl, .inl (SqL.of (R2.sub _ _ b1)), hz, hq _ H2 S2 ρ2 _ R2 (e1.trans e2) (.str _) q⟩
  | _ => exact q2.elim)
end

/-! ### a text some times -/
def rMulS : R2 := fun x y H Q => ∃ a n, x = .str a ∧ y = .int n ∧ PySem.MulOk a n ∧ Q (.str (Txt.mul a n)) H
theorem op_mulS {X : Cx} : OpR X (binaryOp .Mult) rMulS := by
  intro pins s σ H x y v u Q I rx ry h
  obtain ⟨a, n, rfl, rfl, hok, q⟩ := h
  obtain ⟨t, rfl⟩ := rx
  obtain ⟨t', rfl⟩ := ry
  exact PySem.SB.mul hok fun t2 k => ⟨.str _, H, I.tok _, ⟨_, rfl⟩, q⟩
def fMulS : D → D → (D → Prop) → Prop
  | .str a, .int n, k => PySem.MulOk a n ∧ k (.str (Txt.mul a n))
  | _, _, _ => False
@[simp] theorem fMulS_s {a : Str} {n : Int} {k : D → Prop} : fMulS (.str a) (.int n) k = (PySem.MulOk a n ∧ k (.str (Txt.mul a n))) := rfl
theorem opd_mulS {X : Cx} : OpD X.K rMulS fMulS := by
  intro RK g S H σ ρ x y v u k Qh R rx ry h hq
  match x, y, h with
  | .str a, .int n, h =>
    cases rx; cases ry
    exact ⟨a, n, rfl, rfl, h.1, hq _ H S _ R (Same.refl S) (.str _) h.2⟩
end DL
/-! DLu3: the texts of k72-k74 and of the lambdas together -/
/-! DLm1: sum(lists, []) -/
namespace DL
open PySem PySem.Spec PyProof.Rows L2
section
variable {prog : Program} {w : World} {A : Around} {R : Result → Shared → Prop} {I : Addr} {fp wr : List Addr} {G : Array GenState → Array GenState → Prop} {n : Nat} {P : Nat → Value → Prop} {St : Nat → Shared → Prop}
def IsLs (h : Heap) (l : Addr) (xs : List Value) : Prop := ∃ n, h.get? l = some ({ cls := .type "list", data := .seq xs.toArray n } : Obj)
theorem sum_loop_lists (W : WalksS prog w A.in1 I fp wr G n P St) (vss : Nat → List Value) (S : Addr) (hSf : S ∉ fp) (hwS : ∀ b ∈ wr, b < S) :
    ∀ (k i : Nat) (s : Shared) (T : Addr) (pre : List Value) (c : Nat), n - i = k → i ≤ n → St i s → s.heap.get? S = some { cls := .type "list", dict := none, data := .seq #[.ref T] c, slots := #[] } →
    (∀ j, i ≤ j → j < n → ∃ a, (∀ v, P j v → v = .ref a) ∧ a ∉ wr ∧ a ≠ S ∧ IsLs s.heap a (vss j)) → IsLs s.heap T pre → T ∉ wr → T ≠ S → (pre.length + (((List.range' i (n - i)).map vss).flatten).length ≤ sizeLine) →
    (∀ s' T', Moved (S :: wr) G s s' → ((T' = T ∧ i = n) ∨ S < T') → IsLs s'.heap T' (pre ++ ((List.range' i (n - i)).map vss).flatten) → R (.ok (.ret (.ref T'))) s') → codeAny (model prog w) A (.builtin "sum.loop" ⟨[.ref I, .ref S, rawInt 2, rawInt 0], []⟩) R s := by
  have hSw : S ∉ wr := fun h => hSf (W.sub _ h)
  have hsub : ∀ b ∈ wr, b ∈ S :: wr := fun b hb => List.mem_cons_of_mem _ hb
  intro k
  induction k with
  | zero =>
    intro i s T pre c hk hi hst hS hrows hT hTw hTS hz hR
    have hin : i = n := by omega
    subst hin
    refine codeAny_builtin F.entry_sum_loop ?_
    rw [Around.under_plainId F.plain_sum_loop _]
    show wpAny _ A.in1 (seqItems? (.ref S) >>= _) _ _ s
    refine wpAny_bind (wpAny_seqItems hS rfl ?_)
    show wpAny _ A.in1 (tryCatch (pyNext (.ref I)) _ >>= _) _ _ s
    refine wpAny_bind (wpAny_tryCatch (W.done s _ _ hst fun s' hm => ?_))
    obtain ⟨m, hT⟩ := hT
    exact wpAny_pure (hR s' T (hm.mono hsub) (.inl ⟨rfl, rfl⟩) (by rw [Nat.sub_self]; simpa using ⟨m, hm.heap _ _ hTw hT⟩))
  | succ k ih =>
    intro i s T pre c hk hi hst hS hrows hT hTw hTS hz hR
    have hlt : i < n := by omega
    obtain ⟨a, ha1, haw, haS, ma, hal⟩ := hrows i (Nat.le_refl _) hlt
    obtain ⟨mT, hTl⟩ := hT
    have er : List.range' i (n - i) = i :: List.range' (i + 1) (n - (i + 1)) := by
      rw [show n - i = (n - (i + 1)) + 1 by omega, List.range'_succ]
    rw [er] at hz hR
    simp only [List.map_cons, List.flatten_cons, List.length_append] at hz hR
    refine codeAny_builtin F.entry_sum_loop ?_
    rw [Around.under_plainId F.plain_sum_loop _]
    show wpAny _ A.in1 (seqItems? (.ref S) >>= _) _ _ s
    refine wpAny_bind (wpAny_seqItems hS rfl ?_)
    show wpAny _ A.in1 (tryCatch (pyNext (.ref I)) _ >>= _) _ _ s
    refine wpAny_bind (wpAny_tryCatch (W.item i s _ _ hlt hst fun v s' hP hst' hm => ?_))
    obtain rfl := ha1 v hP
    have hS' := hm.heap S _ hSw hS
    have hT' := hm.heap T _ hTw hTl
    have ha' := hm.heap a _ haw hal
    show wpAny _ A.in1 ((holding [Value.ref a] (binaryOp .Add (.ref T) (.ref a))).attempt >>= _) _ _ _
    refine wpAny_bind (wpAny_attempt (wpAny_holding (PySem.P.add_list hT' ha' ?_ (by simp only [List.size_toArray]; omega))))
    have hlen : s'.heap.objs.size < (s'.heap.push ({ cls := .type "list", data := .seq (pre.toArray ++ (vss i).toArray) } : Obj)).objs.size := Heap.lt_size (Heap.get?_push_size _ rfl)
    have hS1 := Heap.get?_push_of_some ({ cls := .type "list", data := .seq (pre.toArray ++ (vss i).toArray) } : Obj) hS'
    show wpAny _ A.in1 (updateSeq S (fun _ => #[.ref s'.heap.objs.size]) >>= _) _ _ _
    refine wpAny_bind (wpAny_updateSeq hS1 rfl ?_)
    have hS₂ := Heap.get?_update_self (Obj.mapSeq fun _ => #[Value.ref s'.heap.objs.size]) hS1 rfl
    refine wpAny_bind (wpAny_letGo ?_)
    have hns : S ≠ s'.heap.objs.size := Nat.ne_of_lt (Heap.lt_size hS')
    have keep : ∀ b o, b ≠ S → s'.heap.get? b = some o → ((((s'.heap.push ({ cls := .type "list", data := .seq (pre.toArray ++ (vss i).toArray) } : Obj)).update S (Obj.mapSeq fun _ => #[Value.ref s'.heap.objs.size])).update S (Obj.mapSeq fun _ => #[Value.ref s'.heap.objs.size])).get? b) = some o := fun b o hb e =>
      (Heap.get?_update_other _ _ (Ne.symm hb)).trans ((Heap.get?_update_other _ _ (Ne.symm hb)).trans (Heap.get?_push_of_some _ e))
    have hnew : ((((s'.heap.push ({ cls := .type "list", data := .seq (pre.toArray ++ (vss i).toArray) } : Obj)).update S (Obj.mapSeq fun _ => #[Value.ref s'.heap.objs.size])).update S (Obj.mapSeq fun _ => #[Value.ref s'.heap.objs.size])).get? s'.heap.objs.size) = some ({ cls := .type "list", data := .seq (pre.toArray ++ (vss i).toArray) } : Obj) :=
      (Heap.get?_update_other _ _ hns).trans ((Heap.get?_update_other _ _ hns).trans (Heap.get?_push_size _ rfl))
    refine wpAny_bind (wpAny_updateSeq hS₂ rfl (wpAny_pure ⟨plainId_quiet F.plain_sum_loop _, ih (i + 1) _ s'.heap.objs.size (pre ++ vss i) _ (by omega) hlt (W.frame _ s' _ _ hst' (by first | exact Nat.le_refl _ | exact Nat.le_succ _ | omega) fun b hb o e => keep b o (fun z => hSf (z ▸ hb)) e) (Heap.get?_update_self _ hS₂ rfl) (fun j hj1 hj2 => ?_) ?_ ?_ ?_ ?_ (fun s'' T'' hm'' hT'' hl'' => ?_)⟩))
    · obtain ⟨b, hb1, hb2, hb3, mb, hb4⟩ := hrows j (by omega) hj2
      exact ⟨b, hb1, hb2, hb3, mb, keep b _ hb3 (hm.heap b _ hb2 hb4)⟩
    · exact ⟨0, by rw [hnew]; simp⟩
    · intro hb
      have h1 := hwS _ hb
      exact absurd (Nat.lt_trans h1 (Heap.lt_size hS')) (Nat.lt_irrefl _)
    · exact fun z => hns z.symm
    · rw [List.length_append]; omega
    · refine hR s'' T'' (Moved.trans W.gtrans ((hm.mono hsub).then_heap (by first | exact Nat.le_refl _ | exact Nat.le_succ _ | omega) fun b o hb e => ?_) hm'') ?_ ?_
      · exact keep b o (fun z => hb (by rw [z]; exact List.mem_cons_self)) e
      · rcases hT'' with ⟨e1, e2⟩ | h
        · rw [e1]; exact .inr (Heap.lt_size hS')
        · exact .inr h
      · rw [← List.append_assoc]; exact hl''
end
section
variable {prog : Program} {w : World} {A : Around} {E : Value → Shared → Prop} {s : Shared}
theorem args_sum2 (a b : Value) : argsOk "sum" ⟨[a, b], []⟩ := by unfold argsOk; kernel_rfl
/-- sum(rows, []) : rows a list of lists -/
theorem sum_lists {l b : Addr} {as : List Addr} {vss : Nat → List Value} {Q : Value → Shared → Prop} (hh : A.handled = none) (hl : s.heap.IsList l (as.map Value.ref).toArray) (hb : IsLs s.heap b [])
    (hrows : ∀ i a, as[i]? = some a → IsLs s.heap a (vss i)) (hz : (((List.range as.length).map vss).flatten).length ≤ sizeLine)
    (h0 : as = [] → ∀ h' tk, (∀ b o, s.heap.get? b = some o → h'.get? b = some o) → Q (.ref b) { s with heap := h', toks := tk })
    (h1 : ∀ h' tk p, (∀ b o, s.heap.get? b = some o → h'.get? b = some o) → s.heap.objs.size ≤ p → IsLs h' p (((List.range as.length).map vss).flatten) → Q (.ref p) { s with heap := h', toks := tk }) :
    wpAny (model prog w) A (call (.builtin "sum") [.ref l, .ref b]) Q E s := by
  refine call_function_tree F.kind_sum F.plain_sum F.entry_sum (args_sum2 _ _) ?_
  unfold Builtin.«sum»
  simp only [List.length_cons, List.length_nil]
  rw [if_neg (by decide)]
  refine wpAny_bind (wpAny_of_eq (show Builtin.Builtins.bindParams "sum" ["start"] 0 ⟨[.ref b], []⟩ = pure [some (.ref b)] from rfl) ?_)
  refine wpAny_bind (wpAny_pyIter_list hl ?_)
  obtain ⟨ol, hol, hlc, nl, hld⟩ := id hl
  have hne : l ≠ s.heap.objs.size := Nat.ne_of_lt (Heap.lt_size hol)
  have hsz : (as.map Value.ref).toArray.size = as.length := by simp
  have W := (Walks.list (prog := prog) (w := w) (A := A.in1) hh s.heap.objs.size l hne (as.map Value.ref).toArray).toS
  rw [hsz] at W
  obtain ⟨nb, hb⟩ := hb
  refine wpAny_bind (wpAny_pure ?_)
  simp only [List.forIn_cons, List.forIn_nil]
  have hty : ∀ (h' : Heap) (o : Obj), h'.get? b = some o → o.cls = .type "list" → ∀ g d t os, ({ heap := h', gens := g, drawn := d, toks := t, os := os } : Shared).TypeIs (.ref b) "list" := fun h' o e1 e2 g d t os => ⟨o, e1, e2⟩
  have hb1 := Heap.get?_push_of_some ({ cls := .type "list_iterator", data := .fields #[.ref l, .int 0 0] } : Obj) hb
  refine wpAny_bind (wpAny_bind (wpAny_bind (wpAny_isInstance (T := "list") (b := false) (hty _ _ hb1 rfl _ _ _ _) (by rw [isSubtype_type]; kernel_rfl) ?_)))
  simp only [Bool.false_eq_true, if_false]
  refine wpAny_pure (wpAny_bind (wpAny_bind (wpAny_isInstance (T := "list") (b := false) (hty _ _ hb1 rfl _ _ _ _) (by rw [isSubtype_type]; kernel_rfl) ?_)))
  simp only [Bool.false_eq_true, if_false]
  refine wpAny_pure (wpAny_bind (wpAny_bind (wpAny_isInstance (T := "list") (b := false) (hty _ _ hb1 rfl _ _ _ _) (by rw [isSubtype_type]; kernel_rfl) ?_)))
  simp only [Bool.false_eq_true, if_false]
  refine wpAny_pure (wpAny_pure ?_)
  refine wpAny_bind (wpAny_newObj_type ?_)
  have hIS : s.heap.objs.size < (s.heap.push ({ cls := .type "list_iterator", data := .fields #[.ref l, .int 0 0] } : Obj)).objs.size := Heap.lt_size (Heap.get?_push_size _ rfl)
  have hlS : l < (s.heap.push ({ cls := .type "list_iterator", data := .fields #[.ref l, .int 0 0] } : Obj)).objs.size := Heap.lt_size (Heap.get?_push_of_some _ hol)
  generalize hh1 : s.heap.push ({ cls := .type "list_iterator", data := .fields #[.ref l, .int 0 0] } : Obj) = H1 at *
  have k1 : ∀ b o, s.heap.get? b = some o → H1.get? b = some o := fun b o e => by rw [← hh1]; exact Heap.get?_push_of_some _ e
  have k2 : ∀ c o, H1.get? c = some o → (H1.push ({ cls := .type "list", data := .seq #[.ref b] } : Obj)).get? c = some o := fun c o e => Heap.get?_push_of_some _ e
  have sfp : H1.objs.size ∉ [s.heap.objs.size, l] := fun hm => by
    rcases List.mem_cons.mp hm with e | e
    · exact absurd (e ▸ hIS) (Nat.lt_irrefl _)
    · exact absurd ((List.mem_singleton.mp e) ▸ hlS) (Nat.lt_irrefl _)
  refine wpAny_pure ⟨plainId_quiet F.plain_sum_loop _, sum_loop_lists W vss H1.objs.size sfp (fun c hc => by rw [List.mem_singleton.mp hc]; exact hIS) as.length 0 _ b [] 0 rfl (Nat.zero_le _) ?_ (Heap.get?_push_size _ rfl) (fun j _ hj => ?_) ⟨nb, Heap.get?_push_of_some _ hb1⟩ ?_ ?_ ?_ (fun s' T' hm hT hl' => ?_)⟩
  · exact ⟨⟨_, k2 _ _ (by rw [← hh1]; exact Heap.get?_push_size _ rfl), rfl, rfl⟩, ⟨ol, k2 _ _ (k1 _ _ hol), hlc, nl, hld⟩⟩
  · have e : as[j]? = some as[j] := List.getElem?_eq_getElem hj
    obtain ⟨m, hm⟩ := hrows j _ e
    have h2 := Heap.lt_size hm
    refine ⟨as[j], fun v hv => ?_, fun z => ?_, fun z => ?_, m, k2 _ _ (k1 _ _ hm)⟩
    · have : (as.map Value.ref).toArray[j]? = some (.ref as[j]) := by simp [e]
      rw [this] at hv; exact (Option.some.inj hv).symm
    · exact absurd ((List.mem_singleton.mp z) ▸ h2) (Nat.lt_irrefl _)
    · exact absurd (Nat.lt_trans (z ▸ h2) hIS) (Nat.lt_irrefl _)
  · intro z; exact absurd ((List.mem_singleton.mp z) ▸ Heap.lt_size hb) (Nat.lt_irrefl _)
  · intro z; exact absurd (Nat.lt_trans (z ▸ Heap.lt_size hb) hIS) (Nat.lt_irrefl _)
  · rw [Nat.sub_zero, ← List.range_eq_range']; simpa using hz
  · have hm2 : ∀ b o, s.heap.get? b = some o → s'.heap.get? b = some o := fun b o e => hm.heap b o (fun hb => by
      have h2 := Heap.lt_size e
      rcases List.mem_cons.mp hb with z | z
      · exact absurd (Nat.lt_trans (z ▸ h2) hIS) (Nat.lt_irrefl _)
      · exact absurd ((List.mem_singleton.mp z) ▸ h2) (Nat.lt_irrefl _)) (k2 _ _ (k1 _ _ e))
    rw [Nat.sub_zero, ← List.range_eq_range', List.nil_append] at hl'
    obtain ⟨h', g', d', tk', os'⟩ := s'
    have e1 : g' = s.gens := hm.gens
    have e2 : d' = s.drawn := hm.drawn
    have e3 : os' = s.os := hm.os
    subst e1 e2 e3
    rcases hT with ⟨e, e2⟩ | hT
    · subst e
      exact h0 (List.eq_nil_of_length_eq_zero e2.symm) h' tk' hm2
    · exact h1 h' tk' T' hm2 (Nat.le_of_lt (Nat.lt_trans hIS hT)) hl'
end
section
variable {X : Cx}
def rSumL (K : PySem.W.Frag) : List V → Hp → VK → Prop := fun vs H Q => ∃ (a b : Addr) (as : List Addr) (xss : List (List V)), vs = [V.ref a, V.ref b] ∧ SqL K H a (as.map V.ref) ∧ H b = some (.lst []) ∧ as.length = xss.length ∧ (∀ (i : Nat) p xs, as[i]? = some p → xss[i]? = some xs → H p = some (.lst xs)) ∧
  xss.flatten.length ≤ sizeLine ∧ (as = [] → Q (.ref b) H) ∧ ∀ p, H p = none → Q (.ref p) (upd H p (.lst xss.flatten))
theorem vals_refs {as : List Addr} {its : List Value} (h : Vals (as.map V.ref) its) : its = as.map Value.ref := by
  induction as generalizing its with
  | nil => cases h; rfl
  | cons a as ih =>
    cases h with
    | cons r t => cases r; rw [ih t]; rfl
theorem vals_flat : ∀ {xss : List (List V)} {vss : List (List Value)}, xss.length = vss.length → (∀ (i : Nat) xs vs, xss[i]? = some xs → vss[i]? = some vs → Vals xs vs) → Vals xss.flatten vss.flatten
  | [], [], _, _ => .nil
  | x :: xss, v :: vss, hl, h => by
    rw [List.flatten_cons, List.flatten_cons]
    exact (h 0 x v rfl rfl).append (vals_flat (by simpa using hl) fun i xs vs e1 e2 => h (i + 1) xs vs (by simpa using e1) (by simpa using e2))
theorem cr_sumL (hc : X.calm = true) : CallR X (.builtin "sum") (rSumL X.K) := by
  rintro pins s σ H vs us Q I r ⟨a, b, as, xss, rfl, hs, hb, hlen, hrows, hz, q0, q1⟩
  obtain ⟨its, rv, pl, hz2⟩ := I.list hs
  obtain rfl := vals_refs rv
  have hrow : ∀ i : Nat, ∃ vs : List Value, ∀ p xs, as[i]? = some p → xss[i]? = some xs → Vals xs vs ∧ IsLs s.heap p vs := by
    intro i
    by_cases hi : i < as.length
    · have e1 : as[i]? = some as[i] := List.getElem?_eq_getElem hi
      have e2 : xss[i]? = some (xss[i]'(by omega)) := List.getElem?_eq_getElem (by omega)
      obtain ⟨z, its, n, r1, hl1, e⟩ := I.lstM (hrows i _ _ e1 e2)
      refine ⟨its, fun p xs h1 h2 => ?_⟩
      rw [e1] at h1; rw [e2] at h2; cases h1; cases h2
      exact ⟨r1, n, e⟩
    · exact ⟨[], fun p xs h1 h2 => by rw [List.getElem?_eq_none (by omega)] at h1; cases h1⟩
  let vss : Nat → List Value := fun i => (hrow i).choose
  have hv : ∀ (i : Nat) p xs, as[i]? = some p → xss[i]? = some xs → Vals xs (vss i) ∧ IsLs s.heap p (vss i) := fun i => (hrow i).choose_spec
  have hflat : Vals xss.flatten (((List.range as.length).map vss).flatten) := by
    refine vals_flat (by simp [hlen]) fun i xs vs e1 e2 => ?_
    have hi : i < as.length := by
      have := (List.getElem?_eq_some_iff.mp e1).1
      omega
    rw [List.getElem?_map, List.getElem?_range hi] at e2
    cases e2
    exact (hv i _ _ (List.getElem?_eq_getElem hi) e1).1
  obtain ⟨u1, u2, rfl, ra, rb⟩ : ∃ u1 u2, us = [u1, u2] ∧ RelV (.ref a) u1 ∧ RelV (.ref b) u2 := by
    cases r with
    | cons r1 t =>
      cases t with
      | cons r2 t => cases t; exact ⟨_, _, rfl, r1, r2⟩
  cases ra; cases rb
  obtain ⟨z0, its0, n0, rv0, hl0, e0⟩ := I.lstM hb
  cases rv0
  refine sum_lists (as := as) (vss := vss) (I.ok.hd hc) (let ⟨o, n, e, c, _, d⟩ := pl; ⟨o, e, c, n, d⟩) ⟨n0, e0⟩ (fun i p e => ?_) (by rw [← hflat.length]; exact hz) (fun e h' tk hk => ⟨.ref _, H, I.kept hk, rfl, q0 e⟩) (fun h' tk p hk hp hl => ?_)
  · have hi := (List.getElem?_eq_some_iff.mp e).1
    exact (hv i _ _ e (List.getElem?_eq_getElem (by omega))).2
  · obtain ⟨m, hm⟩ := hl
    exact ⟨.ref p, _, I.laid (o := .lst xss.flatten) hk hp (show _ ∧ _ from ⟨hz, _, m, hflat, hm⟩), rfl, q1 p (I.hok.fresh hp)⟩
def fSumL : List D → (D → Prop) → Prop
  | [.lst rows, .lst ys], k => ys = [] ∧ ∃ dss : List (List D), rows = dss.map D.lst ∧ dss.flatten.length ≤ sizeLine ∧ k (.lst dss.flatten)
  | _, _ => False
@[simp] theorem fSumL_0 {rows : List D} {k : D → Prop} : fSumL [.lst rows, .lst []] k = (∃ dss : List (List D), rows = dss.map D.lst ∧ dss.flatten.length ≤ sizeLine ∧ k (.lst dss.flatten)) := by
  unfold fSumL; simp
theorem reps_rows {K : PySem.W.Frag} {S : Hp} : ∀ {dss : List (List D)} {vs : List V}, Reps K S vs (dss.map D.lst) → ∃ (as : List Addr) (xss : List (List V)), vs = as.map V.ref ∧ as.length = xss.length ∧ dss.length = xss.length ∧ (∀ (i : Nat) p xs, as[i]? = some p → xss[i]? = some xs → S p = some (.lst xs)) ∧ Reps K S xss.flatten dss.flatten
  | [], _, h => by cases h; exact ⟨[], [], rfl, rfl, rfl, fun i p xs e => by simp at e, .nil⟩
  | ds :: dss, _, h => by
    cases h with
    | cons r t =>
      obtain ⟨as, xss, rfl, h1, h2, h3, h4⟩ := reps_rows t
      cases r with
      | lst a1 a2 =>
        refine ⟨_ :: as, _ :: xss, rfl, by simp [h1], by simp [h2], fun i p xs e1 e2 => ?_, a2.append h4⟩
        cases i with
        | zero => cases e1; cases e2; exact a1
        | succ i => exact h3 i p xs (by simpa using e1) (by simpa using e2)
theorem cd_sumL : CallD X.K (rSumL X.K) fSumL := by
  intro RK g S H σ ρ xs vs k Qh R r h hq
  match xs, r, h with
  | [.lst rows, .lst ys], .cons r1 (.cons r2 .nil), ⟨hy, dss, e, hz, h⟩ =>
    subst hy; subst e
    cases r1 with
    | lst a1 a2 =>
      cases r2 with
      | lst b1 b2 =>
        cases b2
        obtain ⟨as, xss, rfl, h1, h2, h3, h4⟩ := reps_rows a2
        refine ⟨_, _, as, xss, rfl, SqL.of (R.sub _ _ a1), R.sub _ _ b1, h1, fun i p xs e1 e2 => R.sub _ _ (h3 i p xs e1 e2), by rw [h4.length]; exact hz, fun e => ?_, fun p hp => ?_⟩
        · subst e
          have e1 : xss = [] := List.eq_nil_of_length_eq_zero h1.symm
          subst e1
          have e2 : dss = [] := List.eq_nil_of_length_eq_zero h2
          subst e2
          exact hq _ H S _ R (Same.refl S) (.lst b1 .nil) h
        · obtain ⟨R2, e2⟩ := R.alloc (o := .lst _) hp
          exact hq _ _ _ _ R2 e2 (.lst upd_same (h4.up e2)) h
end
end DL
namespace K08
open PySem PySem.Spec PyProof.Rows L2 LamX DL
def insI (a : Int) : List Int → List Int
  | [] => [a]
  | b :: r => if a ≤ b then a :: b :: r else b :: insI a r
def srt : List Int → List Int
  | [] => []
  | a :: r => insI a (srt r)
def handI : D → List Int
  | .tup xs => xs.map D.toI
  | _ => []
def handsOf : D → List (List Int)
  | .tup xs => xs.map handI
  | _ => []
def isDealD : D → Bool
  | .tup xs => decide (1 ≤ xs.length) && decide (xs.length ≤ 4) && xs.all isHandD && decide ((xs.map handI).flatten.Nodup)
  | _ => false
def okDl (x : D) : Prop := x.tyN.isSome = true ∧ ∀ xs, x = .tup xs → xs.length ≤ 1000 ∧ ∀ y ∈ xs, okT y
/-- hands that share no card -/
def DealOk (hs : List (List Int)) : Prop := (1 ≤ hs.length ∧ hs.length ≤ 4) ∧ (∀ h ∈ hs, Hand h) ∧ hs.flatten.Nodup
/-- made of such things -/
inductive DeepD (bs : List D) : D → Prop where
  | base {x : D} : x ∈ bs → DeepD bs x
  | tup {x : D} : DeepD bs x → DeepD bs (.tup [x])
  | lst {x : D} : DeepD bs x → DeepD bs (.lst [x])
  | dct {x : D} : DeepD bs x → DeepD bs (.dct [.inl 0] [x])
def holdI (hs : List (List Int)) (c : Int) : Option Nat := hs.findIdx? (fun h => decide (c ∈ h))
def holdD (hs : List (List Int)) (c : Int) : D := match holdI hs c with
  | some i => .int i
  | none => .non
def swI (a b c : Int) : Int := if c = a then b else if c = b then a else c
def swH (a b : Int) (hs : List (List Int)) : List (List Int) := hs.map fun h => srt (h.map (swI a b))
/-- no card of the deal -/
def noC (x y : D) : Bool := !DL.inR 0 51 y || (holdI (handsOf x) y.toI).isNone
def swapBad (x y z : D) : Option Str := if isDealD x = false then some "NoDeal" else if noC x y = true ∨ noC x z = true then some "NoCard" else none
def holdBad (x y : D) : Option Str := if isDealD x = false then some "NoDeal" else if DL.inR 0 51 y = false then some "NoCard" else none
def wordOf : Option Str → Str
  | none => "said"
  | some e => if e = ("NoDeal" : Str) then "deal" else "card"
def T_are_apart : TSp := fun ds R E => ∃ x, ds = [x] ∧ (∃ hs : List (List Int), x = .tup (hs.map ti) ∧ hs.length ≤ 1000 ∧ ∀ h ∈ hs, Hand h) ∧ R (.bl (decide (handsOf x).flatten.Nodup))
def T_is_deal : TSp := fun ds R E => ∃ x, ds = [x] ∧ okDl x ∧ R (.bl (isDealD x))
def T_check_deal : TSp := fun ds R E => ∃ x, ds = [x] ∧ okDl x ∧ (isDealD x = true → R .non) ∧ (isDealD x = false → E ("NoDeal", []))
def T_raw_holder : TSp := fun ds R E => ∃ (x : D) (c : Int), ds = [x, .int c] ∧ (isDealD x = true) ∧ R (holdD (handsOf x) c)
def T_holder : TSp := fun ds R E => ∃ x y, ds = [x, y] ∧ (okDl x ∧ y.tyN.isSome = true) ∧ (∀ e, holdBad x y = some e → E (e, [])) ∧ (holdBad x y = none → R (holdD (handsOf x) y.toI))
def T_swapped : TSp := fun ds R E => ∃ x y z, ds = [x, y, z] ∧ (okDl x ∧ y.tyN.isSome = true ∧ z.tyN.isSome = true) ∧ (∀ e, swapBad x y z = some e → E (e, [])) ∧ (swapBad x y z = none → R (.tup ((swH y.toI z.toI (handsOf x)).map ti)))
def T__law_deal : TSp := fun ds R E => ds = [] ∧ ∀ hs : List (List Int), DealOk hs → R (.tup (hs.map ti))
def T__law_holder : TSp := fun ds R E => ∃ (x : D) (c : Int), ds = [x, .int c] ∧ (isDealD x = true) ∧ R (holdD (handsOf x) c)
def T__law_swapped : TSp := fun ds R E => ∃ (x : D) (a b : Int), ds = [x, .int a, .int b] ∧ (isDealD x = true) ∧ R (.tup ((swH a b (handsOf x)).map ti))
def T__law_word : WSp := wordT "said" [("NoDeal", "deal"), ("NoCard", "card")]
def T__law_deep : TSp := fun ds R E => ds = [] ∧ ∀ x : D, DeepD [.non, .int (-1), .str "p", .bl true] x → R x
def T__law_swap_word : TSp := fun ds R E => ∃ x y z, ds = [x, y, z] ∧ (okDl x ∧ y.tyN.isSome = true ∧ z.tyN.isSome = true) ∧ R (.str (wordOf (swapBad x y z)))
def T__law_holder_word : TSp := fun ds R E => ∃ x y, ds = [x, y] ∧ (okDl x ∧ y.tyN.isSome = true) ∧ R (.str (wordOf (holdBad x y)))
def T__law_are_refused : TSp := fun ds R E => ∃ x, ds = [x] ∧ (∃ hs, x = .tup (hs.map ti) ∧ DealOk hs) ∧ R (.bl true)
def T__law_is_pair_right : TSp := fun ds R E => ∃ (x : D) (a b : Int), ds = [x, .int a, .int b] ∧ (∃ hs, x = .tup (hs.map ti) ∧ DealOk hs ∧ a ∈ hs.flatten ∧ b ∈ hs.flatten) ∧ R (.bl true)
def T__law_is_right : TSp := fun ds R E => ∃ x, ds = [x] ∧ (∃ hs, x = .tup (hs.map ti) ∧ DealOk hs) ∧ R (.bl true)
theorem mono_are_apart : MonoT T_are_apart := fun ds R R2 E E2 hR hE x => (let ⟨v1, v2⟩ := x; ⟨v1, (let ⟨v3, v4, v5⟩ := v2; ⟨v3, (let ⟨v6, v7⟩ := v4; ⟨v6, (let ⟨v8, v9, v10⟩ := v7; ⟨v8, v9, (fun v11 v12 => (v10 v11 v12))⟩)⟩), hR _ v5⟩)⟩)
theorem len_are_apart : ∀ ds R E, T_are_apart ds R E → ds.length = 1 := by rintro ds R E ⟨_, rfl, _⟩; rfl
theorem mono_is_deal : MonoT T_is_deal := fun ds R R2 E E2 hR hE x => (let ⟨v1, v2⟩ := x; ⟨v1, (let ⟨v3, v4, v5⟩ := v2; ⟨v3, v4, hR _ v5⟩)⟩)
theorem len_is_deal : ∀ ds R E, T_is_deal ds R E → ds.length = 1 := by rintro ds R E ⟨_, rfl, _⟩; rfl
theorem mono_check_deal : MonoT T_check_deal := fun ds R R2 E E2 hR hE x => (let ⟨v1, v2⟩ := x; ⟨v1, (let ⟨v3, v4, v5, v6⟩ := v2; ⟨v3, v4, (fun v7 => hR _ (v5 v7)), (fun v8 => hE _ (v6 v8))⟩)⟩)
theorem len_check_deal : ∀ ds R E, T_check_deal ds R E → ds.length = 1 := by rintro ds R E ⟨_, rfl, _⟩; rfl
theorem mono_raw_holder : MonoT T_raw_holder := fun ds R R2 E E2 hR hE x => (let ⟨v1, v2, v3⟩ := x; ⟨v1, v2, (let ⟨v4, v5, v6⟩ := v3; ⟨v4, v5, hR _ v6⟩)⟩)
theorem len_raw_holder : ∀ ds R E, T_raw_holder ds R E → ds.length = 2 := by rintro ds R E ⟨_, _, rfl, _⟩; rfl
theorem mono_holder : MonoT T_holder := fun ds R R2 E E2 hR hE x => (let ⟨v1, v2, v3⟩ := x; ⟨v1, v2, (let ⟨v4, v5, v6, v7⟩ := v3; ⟨v4, (let ⟨v8, v9⟩ := v5; ⟨v8, v9⟩), (fun v10 => (fun v11 => hE _ ((v6 v10) v11))), (fun v12 => hR _ (v7 v12))⟩)⟩)
theorem len_holder : ∀ ds R E, T_holder ds R E → ds.length = 2 := by rintro ds R E ⟨_, _, rfl, _⟩; rfl
theorem mono_swapped : MonoT T_swapped := fun ds R R2 E E2 hR hE x => (let ⟨v1, v2, v3, v4⟩ := x; ⟨v1, v2, v3, (let ⟨v5, v6, v7, v8⟩ := v4; ⟨v5, (let ⟨v9, v10, v11⟩ := v6; ⟨v9, v10, v11⟩), (fun v12 => (fun v13 => hE _ ((v7 v12) v13))), (fun v14 => hR _ (v8 v14))⟩)⟩)
theorem len_swapped : ∀ ds R E, T_swapped ds R E → ds.length = 3 := by rintro ds R E ⟨_, _, _, rfl, _⟩; rfl
theorem mono__law_deal : MonoT T__law_deal := fun ds R R2 E E2 hR hE x => (let ⟨v1, v2⟩ := x; ⟨v1, (fun v3 => (fun v4 => hR _ ((v2 v3) v4)))⟩)
theorem len__law_deal : ∀ ds R E, T__law_deal ds R E → ds.length = 0 := by rintro ds R E ⟨rfl, _⟩; rfl
theorem mono__law_holder : MonoT T__law_holder := fun ds R R2 E E2 hR hE x => (let ⟨v1, v2, v3⟩ := x; ⟨v1, v2, (let ⟨v4, v5, v6⟩ := v3; ⟨v4, v5, hR _ v6⟩)⟩)
theorem len__law_holder : ∀ ds R E, T__law_holder ds R E → ds.length = 2 := by rintro ds R E ⟨_, _, rfl, _⟩; rfl
theorem mono__law_swapped : MonoT T__law_swapped := fun ds R R2 E E2 hR hE x => (let ⟨v1, v2, v3, v4⟩ := x; ⟨v1, v2, v3, (let ⟨v5, v6, v7⟩ := v4; ⟨v5, v6, hR _ v7⟩)⟩)
theorem len__law_swapped : ∀ ds R E, T__law_swapped ds R E → ds.length = 3 := by rintro ds R E ⟨_, _, _, rfl, _⟩; rfl
theorem mono__law_deep : MonoT T__law_deep := fun ds R R2 E E2 hR hE x => (let ⟨v1, v2⟩ := x; ⟨v1, (fun v3 => (fun v4 => hR _ ((v2 v3) v4)))⟩)
theorem len__law_deep : ∀ ds R E, T__law_deep ds R E → ds.length = 0 := by rintro ds R E ⟨rfl, _⟩; rfl
theorem mono__law_swap_word : MonoT T__law_swap_word := fun ds R R2 E E2 hR hE x => (let ⟨v1, v2, v3, v4⟩ := x; ⟨v1, v2, v3, (let ⟨v5, v6, v7⟩ := v4; ⟨v5, (let ⟨v8, v9, v10⟩ := v6; ⟨v8, v9, v10⟩), hR _ v7⟩)⟩)
theorem len__law_swap_word : ∀ ds R E, T__law_swap_word ds R E → ds.length = 3 := by rintro ds R E ⟨_, _, _, rfl, _⟩; rfl
theorem mono__law_holder_word : MonoT T__law_holder_word := fun ds R R2 E E2 hR hE x => (let ⟨v1, v2, v3⟩ := x; ⟨v1, v2, (let ⟨v4, v5, v6⟩ := v3; ⟨v4, (let ⟨v7, v8⟩ := v5; ⟨v7, v8⟩), hR _ v6⟩)⟩)
theorem len__law_holder_word : ∀ ds R E, T__law_holder_word ds R E → ds.length = 2 := by rintro ds R E ⟨_, _, rfl, _⟩; rfl
theorem mono__law_are_refused : MonoT T__law_are_refused := fun ds R R2 E E2 hR hE x => (let ⟨v1, v2⟩ := x; ⟨v1, (let ⟨v3, v4, v5⟩ := v2; ⟨v3, (let ⟨v6, v7⟩ := v4; ⟨v6, (let ⟨v8, v9⟩ := v7; ⟨v8, v9⟩)⟩), hR _ v5⟩)⟩)
theorem len__law_are_refused : ∀ ds R E, T__law_are_refused ds R E → ds.length = 1 := by rintro ds R E ⟨_, rfl, _⟩; rfl
theorem mono__law_is_pair_right : MonoT T__law_is_pair_right := fun ds R R2 E E2 hR hE x => (let ⟨v1, v2, v3, v4⟩ := x; ⟨v1, v2, v3, (let ⟨v5, v6, v7⟩ := v4; ⟨v5, (let ⟨v8, v9⟩ := v6; ⟨v8, (let ⟨v10, v11, v12, v13⟩ := v9; ⟨v10, v11, v12, v13⟩)⟩), hR _ v7⟩)⟩)
theorem len__law_is_pair_right : ∀ ds R E, T__law_is_pair_right ds R E → ds.length = 3 := by rintro ds R E ⟨_, _, _, rfl, _⟩; rfl
theorem mono__law_is_right : MonoT T__law_is_right := fun ds R R2 E E2 hR hE x => (let ⟨v1, v2⟩ := x; ⟨v1, (let ⟨v3, v4, v5⟩ := v2; ⟨v3, (let ⟨v6, v7⟩ := v4; ⟨v6, (let ⟨v8, v9⟩ := v7; ⟨v8, v9⟩)⟩), hR _ v5⟩)⟩)
theorem len__law_is_right : ∀ ds R E, T__law_is_right ds R E → ds.length = 1 := by rintro ds R E ⟨_, rfl, _⟩; rfl
theorem mono__law_word : MonoW T__law_word := mono_wordT _ _
@[simp] theorem T__law_word_ok {z : D} {R : D → Prop} : T__law_word (.inr z) R = R (.str "said") := rfl
@[simp] theorem T__law_word_NoDeal {R : D → Prop} : T__law_word (.inl (("NoDeal" : Str), [])) R = R (.str "deal") := wordT_at (by simp) (by decide +kernel)
@[simp] theorem T__law_word_NoCard {R : D → Prop} : T__law_word (.inl (("NoCard" : Str), [])) R = R (.str "card") := wordT_at (by simp) (by decide +kernel)
@[simp] theorem T_are_apart_s {x : D} {R : D → Prop} {E : Exn → Prop} : T_are_apart [x] R E = ((∃ hs : List (List Int), x = .tup (hs.map ti) ∧ hs.length ≤ 1000 ∧ ∀ h ∈ hs, Hand h) ∧ R (.bl (decide (handsOf x).flatten.Nodup))) := by
  apply propext
  constructor
  · rintro ⟨_, e, h⟩
    simp only [List.cons.injEq, D.tup.injEq, D.lst.injEq, D.int.injEq, D.bl.injEq, D.str.injEq, and_true] at e
    obtain rfl := e
    exact h
  · intro h
    exact ⟨x, rfl, h⟩
@[simp] theorem T_is_deal_s {x : D} {R : D → Prop} {E : Exn → Prop} : T_is_deal [x] R E = (okDl x ∧ R (.bl (isDealD x))) := by
  apply propext
  constructor
  · rintro ⟨_, e, h⟩
    simp only [List.cons.injEq, D.tup.injEq, D.lst.injEq, D.int.injEq, D.bl.injEq, D.str.injEq, and_true] at e
    obtain rfl := e
    exact h
  · intro h
    exact ⟨x, rfl, h⟩
@[simp] theorem T_check_deal_s {x : D} {R : D → Prop} {E : Exn → Prop} : T_check_deal [x] R E = (okDl x ∧ (isDealD x = true → R .non) ∧ (isDealD x = false → E ("NoDeal", []))) := by
  apply propext
  constructor
  · rintro ⟨_, e, h⟩
    simp only [List.cons.injEq, D.tup.injEq, D.lst.injEq, D.int.injEq, D.bl.injEq, D.str.injEq, and_true] at e
    obtain rfl := e
    exact h
  · intro h
    exact ⟨x, rfl, h⟩
@[simp] theorem T_raw_holder_s {x : D} {c : Int} {R : D → Prop} {E : Exn → Prop} : T_raw_holder [x, .int c] R E = ((isDealD x = true) ∧ R (holdD (handsOf x) c)) := by
  apply propext
  constructor
  · rintro ⟨_, _, e, h⟩
    simp only [List.cons.injEq, D.tup.injEq, D.lst.injEq, D.int.injEq, D.bl.injEq, D.str.injEq, and_true] at e
    obtain ⟨rfl, rfl⟩ := e
    exact h
  · intro h
    exact ⟨x, c, rfl, h⟩
@[simp] theorem T_holder_s {x : D} {y : D} {R : D → Prop} {E : Exn → Prop} : T_holder [x, y] R E = ((okDl x ∧ y.tyN.isSome = true) ∧ (∀ e, holdBad x y = some e → E (e, [])) ∧ (holdBad x y = none → R (holdD (handsOf x) y.toI))) := by
  apply propext
  constructor
  · rintro ⟨_, _, e, h⟩
    simp only [List.cons.injEq, D.tup.injEq, D.lst.injEq, D.int.injEq, D.bl.injEq, D.str.injEq, and_true] at e
    obtain ⟨rfl, rfl⟩ := e
    exact h
  · intro h
    exact ⟨x, y, rfl, h⟩
@[simp] theorem T_swapped_s {x : D} {y : D} {z : D} {R : D → Prop} {E : Exn → Prop} : T_swapped [x, y, z] R E = ((okDl x ∧ y.tyN.isSome = true ∧ z.tyN.isSome = true) ∧ (∀ e, swapBad x y z = some e → E (e, [])) ∧ (swapBad x y z = none → R (.tup ((swH y.toI z.toI (handsOf x)).map ti)))) := by
  apply propext
  constructor
  · rintro ⟨_, _, _, e, h⟩
    simp only [List.cons.injEq, D.tup.injEq, D.lst.injEq, D.int.injEq, D.bl.injEq, D.str.injEq, and_true] at e
    obtain ⟨rfl, rfl, rfl⟩ := e
    exact h
  · intro h
    exact ⟨x, y, z, rfl, h⟩
@[simp] theorem T__law_deal_s  {R : D → Prop} {E : Exn → Prop} : T__law_deal [] R E = (∀ hs : List (List Int), DealOk hs → R (.tup (hs.map ti))) := by
  apply propext
  constructor
  · exact fun h => h.2
  · exact fun h => ⟨rfl, h⟩
@[simp] theorem T__law_holder_s {x : D} {c : Int} {R : D → Prop} {E : Exn → Prop} : T__law_holder [x, .int c] R E = ((isDealD x = true) ∧ R (holdD (handsOf x) c)) := by
  apply propext
  constructor
  · rintro ⟨_, _, e, h⟩
    simp only [List.cons.injEq, D.tup.injEq, D.lst.injEq, D.int.injEq, D.bl.injEq, D.str.injEq, and_true] at e
    obtain ⟨rfl, rfl⟩ := e
    exact h
  · intro h
    exact ⟨x, c, rfl, h⟩
@[simp] theorem T__law_swapped_s {x : D} {a : Int} {b : Int} {R : D → Prop} {E : Exn → Prop} : T__law_swapped [x, .int a, .int b] R E = ((isDealD x = true) ∧ R (.tup ((swH a b (handsOf x)).map ti))) := by
  apply propext
  constructor
  · rintro ⟨_, _, _, e, h⟩
    simp only [List.cons.injEq, D.tup.injEq, D.lst.injEq, D.int.injEq, D.bl.injEq, D.str.injEq, and_true] at e
    obtain ⟨rfl, rfl, rfl⟩ := e
    exact h
  · intro h
    exact ⟨x, a, b, rfl, h⟩
@[simp] theorem T__law_deep_s  {R : D → Prop} {E : Exn → Prop} : T__law_deep [] R E = (∀ x : D, DeepD [.non, .int (-1), .str "p", .bl true] x → R x) := by
  apply propext
  constructor
  · exact fun h => h.2
  · exact fun h => ⟨rfl, h⟩
@[simp] theorem T__law_swap_word_s {x : D} {y : D} {z : D} {R : D → Prop} {E : Exn → Prop} : T__law_swap_word [x, y, z] R E = ((okDl x ∧ y.tyN.isSome = true ∧ z.tyN.isSome = true) ∧ R (.str (wordOf (swapBad x y z)))) := by
  apply propext
  constructor
  · rintro ⟨_, _, _, e, h⟩
    simp only [List.cons.injEq, D.tup.injEq, D.lst.injEq, D.int.injEq, D.bl.injEq, D.str.injEq, and_true] at e
    obtain ⟨rfl, rfl, rfl⟩ := e
    exact h
  · intro h
    exact ⟨x, y, z, rfl, h⟩
@[simp] theorem T__law_holder_word_s {x : D} {y : D} {R : D → Prop} {E : Exn → Prop} : T__law_holder_word [x, y] R E = ((okDl x ∧ y.tyN.isSome = true) ∧ R (.str (wordOf (holdBad x y)))) := by
  apply propext
  constructor
  · rintro ⟨_, _, e, h⟩
    simp only [List.cons.injEq, D.tup.injEq, D.lst.injEq, D.int.injEq, D.bl.injEq, D.str.injEq, and_true] at e
    obtain ⟨rfl, rfl⟩ := e
    exact h
  · intro h
    exact ⟨x, y, rfl, h⟩
@[simp] theorem T__law_are_refused_s {x : D} {R : D → Prop} {E : Exn → Prop} : T__law_are_refused [x] R E = ((∃ hs, x = .tup (hs.map ti) ∧ DealOk hs) ∧ R (.bl true)) := by
  apply propext
  constructor
  · rintro ⟨_, e, h⟩
    simp only [List.cons.injEq, D.tup.injEq, D.lst.injEq, D.int.injEq, D.bl.injEq, D.str.injEq, and_true] at e
    obtain rfl := e
    exact h
  · intro h
    exact ⟨x, rfl, h⟩
@[simp] theorem T__law_is_pair_right_s {x : D} {a : Int} {b : Int} {R : D → Prop} {E : Exn → Prop} : T__law_is_pair_right [x, .int a, .int b] R E = ((∃ hs, x = .tup (hs.map ti) ∧ DealOk hs ∧ a ∈ hs.flatten ∧ b ∈ hs.flatten) ∧ R (.bl true)) := by
  apply propext
  constructor
  · rintro ⟨_, _, _, e, h⟩
    simp only [List.cons.injEq, D.tup.injEq, D.lst.injEq, D.int.injEq, D.bl.injEq, D.str.injEq, and_true] at e
    obtain ⟨rfl, rfl, rfl⟩ := e
    exact h
  · intro h
    exact ⟨x, a, b, rfl, h⟩
@[simp] theorem T__law_is_right_s {x : D} {R : D → Prop} {E : Exn → Prop} : T__law_is_right [x] R E = ((∃ hs, x = .tup (hs.map ti) ∧ DealOk hs) ∧ R (.bl true)) := by
  apply propext
  constructor
  · rintro ⟨_, e, h⟩
    simp only [List.cons.injEq, D.tup.injEq, D.lst.injEq, D.int.injEq, D.bl.injEq, D.str.injEq, and_true] at e
    obtain rfl := e
    exact h
  · intro h
    exact ⟨x, rfl, h⟩
-- readings
/-- are_apart: hands, held, hand, card -/
def r_are_apart : DS := (dSeq (dOwnK 1 dK0)
    (dSeq (dFor (dSeqI (dVar 0)) (bName 2) (dDrop (dUpd 1 (dOfK (dDc (dSeqI (dVar 2)) (bName 3) dYes (dVar 3) (dC (.bl true)) [3])))))
    (dRet (dBin fEqA (dLenN 1) (dCB fSumA (dACons (dOf (dLc (dSeqI (dVar 0)) (bName 2) dYes (dLenN 2) [2])) dANil))))))
/-- is_deal: thing, hand -/
def r_is_deal : DS := (dSeq (dIf (dBOr (dBNot (dTru (dCB fIsi (dACons (dVar 0) (dACons (dC (.raw (.ty "tuple"))) dANil))))) (dBNot (dTst (dChain fLe fLe (dC (.int 1)) (dLenN 0) (dC (.int 4)))))) (dRet (dC (.bl false))) dNext)
    (dRet (dAndV (dCB fAll (dACons (dOf (dLc (dSeqI (dVar 0)) (bName 1) dYes (dCall T_is_hand (dACons (dVar 1) dANil)) [1])) dANil)) (dCall T_are_apart (dACons (dVar 0) dANil)))))
/-- check_deal: deal -/
def r_check_deal : DS := (dIf (dBNot (dTru (dCall T_is_deal (dACons (dVar 0) dANil)))) (dRaise "NoDeal") dNext)
/-- raw_holder: deal, card, player, hand -/
def r_raw_holder : DS := (dSeq (dFor (dEnumA (dACons (dVar 0) dANil)) (bTup 2 (bCons (bName 2) (bCons (bName 3) bNil))) (dIf (dTst (dInK false fInK (dVar 1) 3)) (dRet (dVar 2)) dNext))
    (dRet (dC .non)))
/-- holder: deal, card -/
def r_holder : DS := (dSeq (dDrop (dCall T_check_deal (dACons (dVar 0) dANil)))
    (dSeq (dIf (dBNot (dTru (dCall T_is_card (dACons (dVar 1) dANil)))) (dRaise "NoCard") dNext)
    (dRet (dCall T_raw_holder (dACons (dVar 0) (dACons (dVar 1) dANil))))))
/-- swapped: deal, one, other, card, turned, hand -/
def r_swapped : DS := (dSeq (dDrop (dCall T_check_deal (dACons (dVar 0) dANil)))
    (dSeq (dFor (dSeqI (dTup (dACons (dVar 1) (dACons (dVar 2) dANil)))) (bName 3) (dIf (dBOr (dBNot (dTru (dCall T_is_card (dACons (dVar 3) dANil)))) (dTst (dBin fIs (dCall T_raw_holder (dACons (dVar 0) (dACons (dVar 3) dANil))) (dC .non)))) (dRaise "NoCard") dNext))
    (dSeq (dSet 4 (dOfK (dDisp [((dVar 1), (dVar 2)), ((dVar 2), (dVar 1))])))
    (dRet (dCB fTuple (dACons (dOf (dLc (dSeqI (dVar 0)) (bName 5) dYes (dCB fTuple (dACons (dOf (dCF fSortedA (dACons (dOf (dLc (dSeqI (dVar 5)) (bName 3) dYes (dGetN 4 (dVar 3) (dVar 3)) [3])) dANil))) dANil)) [5])) dANil))))))
/-- _law_bag: script, cells, cell -/
def r__law_hand (zs : List Int) : DS := (dSeq (dSet 1 (dOf (dLc (dSeqI (dScr zs 0 63)) (bName 2) dYes (dCB fAbs (dACons (dCB fInt (dACons (dVar 2) dANil)) dANil)) [2])))
    (dRet (dLst (dACons (dVar 1) (dACons (dC (.int 0)) (dACons (dC (.int 0)) (dACons (dBin fAdd (dC (.int 7408)) (dBin fMul (dC (.int 5)) (dLenN 1))) (dACons (dC (.int 0)) dANil))))))))
/-- _law_pick: bag, many, cell, digit, number -/
def r__law_draw : DS := (dSeq (dIf (dBAnd (dTst (dBin fEqA (dIxK 0 (dC (.int 2))) (dC (.int 0)))) (dTst (dBin fLt (dIxK 0 (dC (.int 1))) (dCB fLen (dACons (dIxK 0 (dC (.int 0))) dANil))))) (dSeq (dSet 2 (dBin fIxK (dIxK 0 (dC (.int 0))) (dIxK 0 (dC (.int 1)))))
    (dSeq (dStore 0 (dC (.int 1)) (dBin fAdd (dIxK 0 (dC (.int 1))) (dC (.int 1))))
    (dSeq (dStore 0 (dC (.int 3)) (dBin fMod (dCB fInt (dACons (dBin fAdd (dBin fAdd (dBin fMul (dIxK 0 (dC (.int 3))) (dC (.int 69621))) (dBin fMul (dVar 2) (dC (.int 40692)))) (dC (.int 37))) dANil)) (dC (.int 2147483629))))
    (dIf (dTst (dBin fGe (dVar 2) (dBin fPow (dC (.int 10)) (dC (.int 18))))) (dStore 0 (dC (.int 2)) (dVar 2)) dNext)))) dNext)
    (dSeq (dIf (dTst (dBin fGt (dIxK 0 (dC (.int 2))) (dC (.int 0)))) (dSeq (dSet 3 (dBin fMod (dCB fInt (dACons (dIxK 0 (dC (.int 2))) dANil)) (dVar 1)))
    (dSeq (dStore 0 (dC (.int 2)) (dBin fDiv (dIxK 0 (dC (.int 2))) (dVar 1)))
    (dRet (dVar 3)))) dNext)
    (dSeq (dStore 0 (dC (.int 4)) (dBin fAdd (dIxK 0 (dC (.int 4))) (dC (.int 1))))
    (dSeq (dSet 4 (dBin fMod (dCB fInt (dACons (dBin fMul (dCB fInt (dACons (dBin fAdd (dIxK 0 (dC (.int 3))) (dBin fMul (dC (.int 7919)) (dIxK 0 (dC (.int 4))))) dANil)) (dC (.int 48271))) dANil)) (dC (.int 2147483647))))
    (dSeq (dSet 4 (dBin fMod (dCB fInt (dACons (dBin fMul (dVar 4) (dBin fAdd (dBin fDiv (dVar 4) (dC (.int 1009))) (dC (.int 69621)))) dANil)) (dC (.int 2147483647))))
    (dSeq (dSet 4 (dBin fMod (dCB fInt (dACons (dBin fMul (dVar 4) (dBin fAdd (dBin fDiv (dVar 4) (dC (.int 2003))) (dC (.int 40014)))) dANil)) (dC (.int 2147483563))))
    (dRet (dBin fMod (dCB fInt (dACons (dBin fDiv (dVar 4) (dC (.int 16))) dANil)) (dVar 1)))))))))
def r__law_deal_1 : DS := (dRet (dCB fTuple (dACons (dVar 1) dANil)))
def r__law_deal_2 : DS := (dSet 2 (dSl (dVar 2) (dPart (dVar 5)) dNoP))
def r__law_deal_3 : DS := (dSeq (dDrop (dApp 1 (dCB fTuple (dACons (dOf (dCF fSortedA (dACons (dSl (dVar 2) dNoP (dPart (dVar 5))) dANil))) dANil))))
    r__law_deal_2)
def r__law_deal_4 : DS := (dSeq (dIf (dTst (dBin fEqA (dCallR T__law_draw 0 (dACons (dC (.int 6)) dANil)) (dC (.int 0)))) (dStore 1 (dNeg (dC (.int 1))) (dCB fTuple (dACons (dOf (dCF fSortedA (dACons (dBin fAdd (dOf (dCF fList (dACons (dIxK 1 (dNeg (dC (.int 1)))) dANil))) (dVar 2)) dANil))) dANil))) dNext)
    r__law_deal_1)
def r__law_deal_5 : DS := (dSeq (dFor (dRngI (dRg1 (dBin fAdd (dC (.int 1)) (dCallR T__law_draw 0 (dACons (dC (.int 4)) dANil))))) (bName 4) (dSeq (dSet 5 (dCallR T__law_draw 0 (dACons (dVar 3) dANil)))
    r__law_deal_3))
    r__law_deal_4)
def r__law_deal_6 : DS := (dSeq (dSet 3 (dCallR T__law_some 0 (dACons (dLst (dACons (dC (.int 1)) (dACons (dC (.int 3)) (dACons (dC (.int 6)) (dACons (dC (.int 14)) dANil))))) dANil)))
    r__law_deal_5)
/-- _law_deal: bag, rows, pool, most, spot, many -/
def r__law_deal : DS := (dSeq (dPar [1, 2] (dafF (dfLst dANil) (dafD (dCallR T__law_mixed 0 (dACons (dOf (dfLstRg (dRg1 (dC (.int 52))))) dANil)) dafNil)))
    r__law_deal_6)
/-- _law_holder: rows, card, spot, row -/
def r__law_holder : DS := (dSeq (dFor (dEnumA (dACons (dVar 0) dANil)) (bTup 2 (bCons (bName 2) (bCons (bName 3) bNil))) (dIf (dTst (dInK false fInK (dVar 1) 3)) (dRet (dVar 2)) dNext))
    (dRet (dC .non)))
/-- _law_swapped: rows, one, other, found, row, card -/
def r__law_swapped : DS := (dSeq (dOwn 3 (dfLst dANil))
    (dSeq (dFor (dSeqI (dVar 0)) (bName 4) (dDrop (dApp 3 (dCB fTuple (dACons (dOf (dCF fSortedA (dACons (dOf (dLc (dSeqI (dVar 4)) (bName 5) dYes (dIfE (dTst (dBin fEqA (dVar 5) (dVar 1))) (dVar 2) (dIfE (dTst (dBin fEqA (dVar 5) (dVar 2))) (dVar 1) (dVar 5))) [5])) dANil))) dANil)))))
    (dRet (dCB fTuple (dACons (dVar 3) dANil)))))
/-- _law_word: call, error, flags -/
def r__law_word : WSp := dWordB 1 3 ("said" : Str) ["NoCard", "NoDeal"] (fun a x => (dSeq (dSet 2 (dLst (dACons (dIsE a x 1 "NoDeal") (dACons (dIsE a x 1 "NoCard") dANil))))
    (dSeq (dIf (dBOr (dTst (dBin fNeA (dMethL fCountL (dVar 2) (dC (.bl true))) (dC (.int 1)))) (dBNot (dTru (dIsV a 1)))) (dRet (dC (.str ("other" : Str)))) dNext)
    (dRet (dIfE (dTru (dIxK 2 (dC (.int 0)))) (dC (.str ("deal" : Str))) (dC (.str ("card" : Str))))))))
/-- _law_deep: bag, found, step -/
def r__law_deep : DS := (dSeq (dSet 1 (dCallR T__law_some 0 (dACons (dLst (dACons (dC .non) (dACons (dNeg (dC (.int 1))) (dACons (dC (.str ("p" : Str))) (dACons (dC (.bl true)) dANil))))) dANil)))
    (dSeq (dFor (dRngI (dRg1 (dBin fAdd (dC (.int 1)) (dCallR T__law_draw 0 (dACons (dC (.int 48)) dANil))))) (bName 2) (dSet 1 (dBin fIxK (dLst (dACons (dTup (dACons (dVar 1) dANil)) (dACons (dLst (dACons (dVar 1) dANil)) (dACons (dOfK (dDisp [((dC (.int 0)), (dVar 1))])) dANil)))) (dCallR T__law_draw 0 (dACons (dC (.int 3)) dANil)))))
    (dRet (dVar 1))))
/-- _law_swap_word: rows, one, other -/
def r__law_swap_word : DS := (dRet (dWord T__law_word (dCall T_swapped (dACons (dVar 0) (dACons (dVar 1) (dACons (dVar 2) dANil))))))
/-- _law_holder_word: rows, card -/
def r__law_holder_word : DS := (dRet (dWord T__law_word (dCall T_holder (dACons (dVar 0) (dACons (dVar 1) dANil)))))
def r__law_are_refused_1 : DS := (dDrop (dApp 6 (dC (.str ("card" : Str)))))
def r__law_are_refused_2 : DS := (dRet (dBin fEqA (dVar 5) (dVar 6)))
def r__law_are_refused_3 : DS := (dOwn 6 (dfCat (dVar 6) (dBin fMul (dLst (dACons (dC (.str ("card" : Str))) dANil)) (dC (.int 2)))))
def r__law_are_refused_4 : DS := (dSeq (dOwn 5 (dfCat (dVar 5) (dLst (dACons (dCall T__law_swap_word (dACons (dVar 1) (dACons (dVar 8) (dACons (dIxK 7 (dNeg (dC (.int 1)))) dANil)))) (dACons (dCall T__law_swap_word (dACons (dVar 1) (dACons (dIxK 7 (dNeg (dC (.int 1)))) (dACons (dVar 8) dANil)))) dANil)))))
    r__law_are_refused_3)
def r__law_are_refused_5 : DS := (dSeq (dIf (dTst (dBin fGt (dLenN 9) (dC (.int 0)))) (dSeq (dDrop (dApp 5 (dCall T__law_swap_word (dACons (dVar 1) (dACons (dIxK 9 (dC (.int 0))) (dACons (dIxK 9 (dC (.int 0))) dANil))))))
    r__law_are_refused_1) dNext)
    r__law_are_refused_2)
def r__law_are_refused_6 : DS := (dOwn 6 (dfCat (dVar 6) (dBin fMul (dLst (dACons (dC (.str ("card" : Str))) dANil)) (dC (.int 2)))))
def r__law_are_refused_7 : DS := (dSeq (dIf (dBAnd (dTst (dBin fGt (dLenN 9) (dC (.int 0)))) (dTst (dBin fGt (dLenN 7) (dC (.int 0))))) (dSeq (dSet 8 (dCallR T__law_some 0 (dACons (dVar 9) dANil)))
    r__law_are_refused_4) dNext)
    r__law_are_refused_5)
def r__law_are_refused_8 : DS := (dSeq (dIf (dTst (dBin fGt (dLenN 7) (dC (.int 0)))) (dSeq (dOwn 5 (dfCat (dVar 5) (dLst (dACons (dCall T__law_swap_word (dACons (dVar 1) (dACons (dIxK 7 (dC (.int 0))) (dACons (dVar 4) dANil)))) (dACons (dCall T__law_swap_word (dACons (dVar 1) (dACons (dVar 4) (dACons (dIxK 7 (dC (.int 0))) dANil)))) dANil)))))
    r__law_are_refused_6) dNext)
    r__law_are_refused_7)
def r__law_are_refused_9 : DS := (dSeq (dSet 9 (dOf (dLc (dRngI (dRg1 (dC (.int 52)))) (bName 8) (dTst (dInK true fNotInK (dVar 8) 7)) (dVar 8) [8])))
    r__law_are_refused_8)
def r__law_are_refused_10 : DS := (dSeq (dSet 7 (dCB fSumL (dACons (dOf (dLc (dSeqI (dVar 1)) (bName 10) dYes (dOf (dCF fList (dACons (dVar 10) dANil))) [10])) (dACons (dLst dANil) dANil))))
    r__law_are_refused_9)
def r__law_are_refused_11 : DS := (dSeq (dOwn 6 (dfLst (dACons (dC (.str ("deal" : Str))) (dACons (dC (.str ("card" : Str))) (dACons (dC (.str ("deal" : Str))) (dACons (dC (.str ("card" : Str))) dANil))))))
    r__law_are_refused_10)
def r__law_are_refused_12 : DS := (dSeq (dDrop (dApp 5 (dCall T__law_swap_word (dACons (dVar 1) (dACons (dVar 4) (dACons (dVar 4) dANil))))))
    r__law_are_refused_11)
def r__law_are_refused_13 : DS := (dSeq (dOwn 5 (dfLst (dACons (dCall T__law_holder_word (dACons (dVar 3) (dACons (dVar 4) dANil))) (dACons (dCall T__law_holder_word (dACons (dVar 1) (dACons (dVar 4) dANil))) (dACons (dCall T__law_swap_word (dACons (dVar 3) (dACons (dVar 4) (dACons (dVar 4) dANil)))) dANil)))))
    r__law_are_refused_12)
def r__law_are_refused_14 : DS := (dSeq (dSet 4 (dCallR T__law_some 0 (dACons (dLst (dACons (dC (.int 52)) (dACons (dNeg (dC (.int 1))) (dACons (dC .non) (dACons (dC (.bl true)) (dACons (dC (.str ("2c" : Str))) (dACons (dTup (dACons (dC (.int 0)) dANil)) (dACons (dLst (dACons (dC (.int 0)) dANil)) (dACons (dOfK dK0) (dACons (dBin fPow (dC (.int 10)) (dC (.int 30))) (dACons (dCallR T__law_deep 0 dANil) dANil))))))))))) dANil)))
    r__law_are_refused_13)
def r__law_are_refused_15 : DS := (dSeq (dSet 3 (dCallR T__law_some 0 (dACons (dBin fAdd (dVar 2) (dLst (dACons (dTup (dACons (dTup (dACons (dC (.int 0)) dANil)) (dACons (dC .non) dANil))) (dACons (dCallR T__law_deep 0 dANil) dANil)))) dANil)))
    r__law_are_refused_14)
/-- _law_are_refused: bag, rows, some, none, odd, words, due, pool, card, free, row -/
def r__law_are_refused : DS := (dSeq (dSet 2 (dLst (dACons (dC .non) (dACons (dC (.int 0)) (dACons (dTup dANil) (dACons (dBin fRepT2 (dTup (dACons (dTup (dACons (dC (.int 0)) dANil)) dANil)) (dC (.int 2))) (dACons (dOf (dCF fList (dACons (dVar 1) dANil))) (dACons (dTup (dACons (dTup (dACons (dC (.int 1)) (dACons (dC (.int 0)) dANil))) dANil)) (dACons (dTup (dACons (dTup (dACons (dC (.int 52)) dANil)) dANil)) (dACons (dBin fRepT2 (dTup (dACons (dTup dANil) dANil)) (dC (.int 5))) (dACons (dOfK dK0) (dACons (dTup (dACons (dTup (dACons (dC (.bl true)) dANil)) dANil)) (dACons (dTup (dACons (dC (.int 0)) (dACons (dC (.int 1)) dANil))) (dACons (dC (.str ("deal" : Str))) dANil))))))))))))))
    r__law_are_refused_15)
def r__law_is_pair_right_1 : DS := (dRet (dCB fAll (dACons (dOf (dLc (dSeqI (dVar 5)) (bName 7) (dTst (dBin fNotInK (dVar 7) (dTup (dACons (dVar 1) (dACons (dVar 2) dANil))))) (dBin fEqA (dCall T_holder (dACons (dVar 3) (dACons (dVar 7) dANil))) (dCall T_holder (dACons (dVar 0) (dACons (dVar 7) dANil)))) [7])) dANil)))
def r__law_is_pair_right_2 : DS := (dSeq (dSet 5 (dCB fSumL (dACons (dOf (dLc (dSeqI (dVar 0)) (bName 6) dYes (dOf (dCF fList (dACons (dVar 6) dANil))) [6])) (dACons (dLst dANil) dANil))))
    r__law_is_pair_right_1)
def r__law_is_pair_right_3 : DS := (dSeq (dIf (dBOr (dTst (dBin fNeA (dCall T_holder (dACons (dVar 3) (dACons (dVar 1) dANil))) (dCall T_holder (dACons (dVar 0) (dACons (dVar 2) dANil))))) (dTst (dBin fNeA (dCall T_holder (dACons (dVar 3) (dACons (dVar 2) dANil))) (dCall T_holder (dACons (dVar 0) (dACons (dVar 1) dANil)))))) (dRet (dC (.bl false))) dNext)
    r__law_is_pair_right_2)
def r__law_is_pair_right_4 : DS := (dSeq (dIf (dTst (dBin fNeA (dBin fEqA (dVar 3) (dVar 0)) (dBin fEqA (dCall T_holder (dACons (dVar 0) (dACons (dVar 1) dANil))) (dCall T_holder (dACons (dVar 0) (dACons (dVar 2) dANil)))))) (dRet (dC (.bl false))) dNext)
    r__law_is_pair_right_3)
def r__law_is_pair_right_5 : DS := (dSeq (dIf (dBOr (dTst (dBin fNeA (dCall T_swapped (dACons (dVar 3) (dACons (dVar 1) (dACons (dVar 2) dANil)))) (dVar 0))) (dTst (dBin fNeA (dOf (dLc (dSeqI (dVar 3)) (bName 6) dYes (dLenN 6) [6])) (dOf (dLc (dSeqI (dVar 0)) (bName 6) dYes (dLenN 6) [6]))))) (dRet (dC (.bl false))) dNext)
    r__law_is_pair_right_4)
def r__law_is_pair_right_6 : DS := (dSeq (dIf (dBOr (dTst (dBin fNeA (dCall T_swapped (dACons (dVar 0) (dACons (dVar 1) (dACons (dVar 2) dANil)))) (dVar 3))) (dBOr (dTst (dBin fNeA (dCall T_swapped (dACons (dVar 0) (dACons (dVar 2) (dACons (dVar 1) dANil)))) (dVar 3))) (dTst (dBin fNeA (dCB fRepr (dACons (dVar 0) dANil)) (dVar 4))))) (dRet (dC (.bl false))) dNext)
    r__law_is_pair_right_5)
/-- _law_is_pair_right: rows, one, other, due, before, pool, row, card -/
def r__law_is_pair_right : DS := (dSeq (dPar [3, 4] (dafD (dCall T__law_swapped (dACons (dVar 0) (dACons (dVar 1) (dACons (dVar 2) dANil)))) (dafD (dCB fRepr (dACons (dVar 0) dANil)) dafNil)))
    r__law_is_pair_right_6)
/-- _law_is_right: bag, rows, pool, step, row, card -/
def r__law_is_right : DS := (dSeq (dIf (dBNot (dTru (dCB fAll (dACons (dOf (dLc (dRngI (dRg1 (dC (.int 52)))) (bName 5) dYes (dBin fEqA (dCB fRepr (dACons (dCall T_holder (dACons (dVar 1) (dACons (dVar 5) dANil))) dANil)) (dCB fRepr (dACons (dCall T__law_holder (dACons (dVar 1) (dACons (dVar 5) dANil))) dANil))) [5])) dANil)))) (dRet (dC (.bl false))) dNext)
    (dSeq (dSet 2 (dCB fSumL (dACons (dOf (dLc (dSeqI (dVar 1)) (bName 4) dYes (dOf (dCF fList (dACons (dVar 4) dANil))) [4])) (dACons (dLst dANil) dANil))))
    (dSeq (dFor (dRngI (dRg1 (dIfE (dTst (dBin fGt (dLenN 2) (dC (.int 0)))) (dC (.int 5)) (dC (.int 0))))) (bName 3) (dIf (dBNot (dTru (dCall T__law_is_pair_right (dACons (dVar 1) (dACons (dCallR T__law_some 0 (dACons (dVar 2) dANil)) (dACons (dCallR T__law_some 0 (dACons (dVar 2) dANil)) dANil)))))) (dRet (dC (.bl false))) dNext))
    (dRet (dOrV (dBin fEqA (dLenN 2) (dC (.int 0))) (dCall T__law_is_pair_right (dACons (dVar 1) (dACons (dIxK 2 (dC (.int 0))) (dACons (dIxK 2 (dC (.int 0))) dANil)))))))))
def r_law_1 : DS := (dIf (dBOr (dBNot (dTru (dCallR T__law_is_right 1 (dACons (dVar 2) dANil)))) (dBNot (dTru (dCallR T__law_are_refused 1 (dACons (dVar 2) dANil))))) (dRet (dC (.bl false))) dNext)
def r_law_2 : DS := (dRet (dC (.bl true)))
def r_law_3 : DS := (dSeq (dFor (dRngI (dRg1 (dC (.int 5)))) (bName 3) (dSeq (dSet 2 (dCallR T__law_deal 1 dANil))
    r_law_1))
    r_law_2)
def r_law_4 : DS := (dSeq (dIf (dBOr (dTst (dBin fIsNot (dCall T_holder (dACons (dVar 2) (dACons (dC (.int 4)) dANil))) (dC .non))) (dBOr (dTst (dBin fNeA (dCall T_holder (dACons (dTup (dACons (dTup dANil) (dACons (dTup (dACons (dC (.int 7)) dANil)) dANil))) (dACons (dC (.int 7)) dANil))) (dC (.int 1)))) (dTst (dBin fNeA (dCall T__law_swap_word (dACons (dVar 2) (dACons (dC (.int 4)) (dACons (dC (.int 0)) dANil)))) (dC (.str ("card" : Str))))))) (dRet (dC (.bl false))) dNext)
    r_law_3)
def r_law_5 : DS := (dSeq (dIf (dBOr (dTst (dBin fNeA (dCall T_swapped (dACons (dVar 2) (dACons (dC (.int 5)) (dACons (dC (.int 3)) dANil)))) (dTup (dACons (dTup (dACons (dC (.int 0)) (dACons (dC (.int 3)) dANil))) (dACons (dTup (dACons (dC (.int 5)) (dACons (dC (.int 9)) dANil))) dANil))))) (dBOr (dTst (dBin fNeA (dCall T_swapped (dACons (dVar 2) (dACons (dC (.int 0)) (dACons (dC (.int 5)) dANil)))) (dVar 2))) (dTst (dBin fNeA (dCall T_holder (dACons (dVar 2) (dACons (dC (.int 9)) dANil))) (dC (.int 1)))))) (dRet (dC (.bl false))) dNext)
    r_law_4)
/-- law: script, bag, rows, step -/
def r_law : DS := (dSeq (dSet 2 (dTup (dACons (dTup (dACons (dC (.int 0)) (dACons (dC (.int 5)) dANil))) (dACons (dTup (dACons (dC (.int 3)) (dACons (dC (.int 9)) dANil))) dANil))))
    r_law_5)
theorem pu__law_draw : ∀ ds R E hs p, T__law_draw ds R E → hInv hs → r__law_draw (fun _ _ => False) { nx := fun ρ => ∃ hs', ρ[0]? = some (.own p hs') ∧ hInv hs' ∧ R .non, rt := fun x ρ => ∃ hs', ρ[0]? = some (.own p hs') ∧ hInv hs' ∧ R x } (.own p hs :: rho0 4 ds) := by
  rintro ds R E hs p ⟨n, rfl, ⟨hn, hn2⟩, h⟩ ⟨ms, a, b, c, e, rfl, h1, h2, h3, h4, h5⟩
  have hR : ∀ x : Int, R (.int (x % n)) := fun x => h _ (Int.emod_nonneg _ (by omega)) (Int.emod_lt_of_pos _ hn)
  have hd : 0 ≤ b / n := Int.ediv_nonneg h3 (by omega)
  by_cases hb : b = 0
  · subst hb
    by_cases ha : a < ms.length
    · have hl : a.toNat < ms.length := by omega
      have hm : ms[a.toNat]? = some ms[a.toNat] := List.getElem?_eq_getElem hl
      have hm0 := h1 _ (List.getElem_mem hl)
      have hd2 : 0 ≤ ms[a.toNat] / n := Int.ediv_nonneg hm0 (by omega)
      simp [r__law_draw, atI, ixN, ha, h2, hm]
      repeat' (first | apply And.intro | intro _)
      all_goals first
        | omega
        | exact hR _
        | exact mulL (by omega) (by omega)
        | exact mulR (by omega) (by omega)
        | exact divS (by omega) (by omega)
        | exact divB hn hn2
        | exact hInv_of h1 (by omega) (by omega) (by omega) (by omega)
        | (unfold CPow; decide)
    · simp [r__law_draw, atI, ixN, ha, h2]
      repeat' (first | apply And.intro | intro _)
      all_goals first
        | omega
        | exact hR _
        | exact mulL (by omega) (by omega)
        | exact mulR (by omega) (by omega)
        | exact divS (by omega) (by omega)
        | exact divB hn hn2
        | exact hInv_of h1 (by omega) (by omega) (by omega) (by omega)
  · simp [r__law_draw, atI, ixN, hb]
    repeat' (first | apply And.intro | intro _)
    all_goals first
      | omega
      | exact hR _
      | exact mulL (by omega) (by omega)
      | exact mulR (by omega) (by omega)
      | exact divS (by omega) (by omega)
      | exact divB hn hn2
      | exact hInv_of h1 (by omega) (by omega) (by omega) (by omega)
theorem pu__law_hand (zs : List Int) : ∀ ds R E, THand ds R E → r__law_hand zs (fun x _ => E x) (Ends0 R) (rhoR 3 ds) := by
  rintro ds R E ⟨rfl, h⟩
  simp [r__law_hand]
  refine ⟨sz_of (by omega), ?_⟩
  rw [← List.map_take]
  refine lc_all _ _ (fun i => .int (if i < 0 then -i else i)) rfl (fun i hi K hK => ?_) (fun ρ2 hρ => ?_)
  · simp [lcStep_s]
    exact hK _ rfl
  · rw [back_is (ρ3 := [.res, .un, .un]) hρ rfl]
    simp
    repeat' (first | apply And.intro | exact mulL (by omega) (by omega))
    refine h _ ?_
    have z := fun c hc => hInv_of (ms := (zs.take 63).map fun i => if i < 0 then -i else i) (a := 0) (b := 0) (c := c) (e := 0) (fun m hm => by
      obtain ⟨i, _, rfl⟩ := List.mem_map.mp hm
      split <;> omega) (by omega) (by omega) hc (by omega)
    simp only [List.map_map] at z
    simp only [← List.map_take]
    exact z _ (by omega)
end K08
namespace K08
open PySem PySem.Spec PyProof.Rows L2 DL
theorem insI_perm (a : Int) : ∀ r, (insI a r).Perm (a :: r)
  | [] => List.Perm.refl _
  | b :: r => by
    unfold insI
    split
    · exact List.Perm.refl _
    · exact (List.Perm.cons b (insI_perm a r)).trans (List.Perm.swap a b r)
theorem insI_sorted {a : Int} : ∀ {r : List Int}, r.Pairwise (· ≤ ·) → (insI a r).Pairwise (· ≤ ·)
  | [], _ => by simp [insI]
  | b :: r, h => by
    unfold insI
    split
    · next hab =>
      refine List.pairwise_cons.mpr ⟨fun x hx => ?_, h⟩
      rcases List.mem_cons.mp hx with e | e
      · subst e; exact hab
      · exact Int.le_trans hab ((List.pairwise_cons.mp h).1 x e)
    · next hab =>
      refine List.pairwise_cons.mpr ⟨fun x hx => ?_, insI_sorted (List.pairwise_cons.mp h).2⟩
      rcases List.mem_cons.mp ((insI_perm a r).mem_iff.mp hx) with e | e
      · subst e; omega
      · exact (List.pairwise_cons.mp h).1 x e
theorem srt_perm : ∀ ns : List Int, (srt ns).Perm ns
  | [] => List.Perm.refl _
  | a :: r => (insI_perm a _).trans (List.Perm.cons a (srt_perm r))
theorem srt_sorted : ∀ ns : List Int, (srt ns).Pairwise (· ≤ ·)
  | [] => .nil
  | _ :: r => insI_sorted (srt_sorted r)
theorem srt_of {ns ns' : List Int} (h : ns'.Perm ns) (h2 : ns'.Pairwise (· ≤ ·)) : ns' = srt ns := sort_uniq (h.trans (srt_perm ns).symm) h2 (srt_sorted ns)
theorem srt_congr {a b : List Int} (h : a.Perm b) : srt a = srt b := srt_of ((srt_perm a).trans h) (srt_sorted a)
theorem mem_srt {x : Int} {ns : List Int} : x ∈ srt ns ↔ x ∈ ns := (srt_perm ns).mem_iff
@[simp] theorem srt_len (ns : List Int) : (srt ns).length = ns.length := (srt_perm ns).length_eq
@[simp] theorem handI_ti (ns : List Int) : handI (.tup (ns.map D.int)) = ns := by simp [handI, toI_map]
@[simp] theorem handsOf_ti (hs : List (List Int)) : handsOf (.tup (hs.map ti)) = hs := by
  simp only [handsOf, List.map_map]
  have : handI ∘ ti = id := by funext ns; simp
  rw [this, List.map_id]
theorem Hand_nodup {ns : List Int} (h : Hand ns) : ns.Nodup := by
  have : ∀ {ns : List Int}, DL.incr ns = true → ns.Pairwise (· < ·) := by
    intro ns
    induction ns with
    | nil => intro _; exact .nil
    | cons a r ih =>
      intro h
      cases r with
      | nil => simp
      | cons b r =>
        simp only [DL.incr, Bool.and_eq_true, decide_eq_true_eq] at h
        have hr := ih h.2
        refine List.pairwise_cons.mpr ⟨fun x hx => ?_, hr⟩
        rcases List.mem_cons.mp hx with e | e
        · subst e; exact h.1
        · exact Int.lt_trans h.1 ((List.pairwise_cons.mp hr).1 x e)
  exact (this (DL.Hand.incr h)).imp fun h => by omega
theorem Hand_sorted {ns : List Int} (h : Hand ns) : ns.Pairwise (· ≤ ·) := by
  have : ∀ {ns : List Int}, DL.incr ns = true → ns.Pairwise (· < ·) := by
    intro ns
    induction ns with
    | nil => intro _; exact .nil
    | cons a r ih =>
      intro h
      cases r with
      | nil => simp
      | cons b r =>
        simp only [DL.incr, Bool.and_eq_true, decide_eq_true_eq] at h
        have hr := ih h.2
        refine List.pairwise_cons.mpr ⟨fun x hx => ?_, hr⟩
        rcases List.mem_cons.mp hx with e | e
        · subst e; exact h.1
        · exact Int.lt_trans h.1 ((List.pairwise_cons.mp hr).1 x e)
  exact (this (DL.Hand.incr h)).imp fun h => by omega
theorem hand_ex {x : D} (h : isHandD x = true) : ∃ ns, x = .tup (ns.map D.int) ∧ Hand ns := by
  cases x with
  | tup xs =>
    simp only [isHandD, Bool.and_eq_true] at h
    have e := cards_ints h.1
    refine ⟨xs.map D.toI, by rw [← e], Hand_of (fun z hz => ?_) h.2⟩
    rw [e] at h
    have := List.all_eq_true.mp h.1 _ (List.mem_map_of_mem hz)
    simp at this; omega
  | _ => cases h
theorem deal_of {hs : List (List Int)} (h : DealOk hs) : isDealD (.tup (hs.map ti)) = true := by
  obtain ⟨⟨h1, h2⟩, h3, h4⟩ := h
  have e := handsOf_ti hs
  simp only [handsOf] at e
  simp only [isDealD, e, List.length_map, Bool.and_eq_true, decide_eq_true_eq, List.all_eq_true]
  refine ⟨⟨⟨h1, h2⟩, fun y hy => ?_⟩, h4⟩
  obtain ⟨ns, hn, rfl⟩ := List.mem_map.mp hy
  exact (h3 ns hn).isD
theorem deal_ex {x : D} (h : isDealD x = true) : ∃ hs : List (List Int), x = .tup (hs.map ti) ∧ DealOk hs := by
  cases x with
  | tup xs =>
    simp only [isDealD, Bool.and_eq_true, decide_eq_true_eq, List.all_eq_true] at h
    obtain ⟨⟨⟨h1, h2⟩, h3⟩, h4⟩ := h
    refine ⟨xs.map handI, ?_, by simp [h1, h2], fun ns hn => ?_, h4⟩
    · rw [List.map_map]
      conv => lhs; rw [← List.map_id xs]
      congr 1
      refine List.map_congr_left fun y hy => ?_
      obtain ⟨ns, rfl, _⟩ := hand_ex (h3 y hy)
      simp
    · obtain ⟨y, hy, rfl⟩ := List.mem_map.mp hn
      obtain ⟨ns, rfl, hH⟩ := hand_ex (h3 y hy)
      rw [handI_ti]; exact hH
  | _ => cases h
theorem okDl_of {hs : List (List Int)} (h : DealOk hs) : okDl (.tup (hs.map ti)) := ⟨rfl, fun xs e => by
  cases e
  refine ⟨by have := h.1.2; simp; omega, fun y hy => ?_⟩
  obtain ⟨ns, hn, rfl⟩ := List.mem_map.mp hy
  exact (h.2.1 ns hn).okT⟩
theorem flat_len {hs : List (List Int)} (h : ∀ h ∈ hs, Hand h) : hs.flatten.length ≤ 52 * hs.length := by
  induction hs with
  | nil => simp
  | cons a r ih =>
    have := ih fun h hh => ‹∀ h ∈ a :: r, Hand h› h (List.mem_cons_of_mem _ hh)
    have := (h a List.mem_cons_self).len
    simp only [List.flatten_cons, List.length_append, List.length_cons]
    omega
theorem merge_fold (c : D) (acc : KD) (ns : List Int) : mergeD acc (((ns.map (Sum.inl : Int → Key))).zip (ns.map fun _ => c)) = foldI c acc ns := by
  induction ns generalizing acc with
  | nil => rfl
  | cons n r ih => exact ih _
theorem foldI_app (c : D) (acc : KD) (a b : List Int) : foldI c acc (a ++ b) = foldI c (foldI c acc a) b := by unfold foldI; rw [List.foldl_append]
theorem pu_are_apart : ∀ ds R E, T_are_apart ds R E → r_are_apart (fun x _ => E x) (Ends0 R) (rho0 4 ds) := by
  rintro ds R E ⟨x, rfl, ⟨hs, rfl, hl, hh⟩, h⟩
  rw [handsOf_ti] at h
  simp [r_are_apart]
  intro p
  have main : ∀ (k : Nat), k ≤ hs.length → True := fun _ _ => trivial
  refine for_inv (fun r ρ => ∃ (hs1 hs2 : List (List Int)) (c : Cell), hs = hs1 ++ hs2 ∧ r = hs2.map ti ∧ ρ = [.dat (.tup (hs.map ti)), .ownK p (foldI (.bl true) [] hs1.flatten), c, .un]) ?_ ?_ ⟨[], hs, .un, rfl, rfl, rfl⟩
  · rintro x r ρ K ⟨hs1, hs2, c, e1, e2, rfl⟩ hK
    obtain ⟨a, hs3, rfl, rfl, rfl⟩ : ∃ a hs3, hs2 = a :: hs3 ∧ x = ti a ∧ r = hs3.map ti := by
      cases hs2 with
      | nil => cases e2
      | cons a hs3 => cases e2; exact ⟨a, hs3, rfl, rfl, rfl⟩
    have ha : Hand a := hh a (by rw [e1]; simp)
    simp
    refine ⟨sz_of (by have := ha.len; omega), ?_⟩
    refine dc_ints (.bl true) rfl (Hand_nodup ha) (fun i hi K2 hK2 => ?_) (fun ρ2 hρ => ?_)
    · simp
      exact hK2 _ rfl
    · rw [back_is (ρ3 := [.dat (.tup (hs.map ti)), .ownK p (foldI (.bl true) [] hs1.flatten), .dat (ti a), .un]) hρ rfl]
      simp
      have hfl := flat_len hh
      have e3 : hs1.flatten.length + a.length ≤ hs.flatten.length := by rw [e1]; simp
      have hz := (foldI_len (.bl true) hs1.flatten [] (by simp)).1
      simp only [List.length_nil, Nat.zero_add] at hz
      refine ⟨sz_of (by simp only [List.length_map]; omega), ?_⟩
      have e4 := merge_fold (.bl true) (foldI (.bl true) [] hs1.flatten) a
      refine hK _ ⟨hs1 ++ [a], hs3, .dat (ti a), by simp [e1], rfl, ?_⟩
      unfold setI at *
      rw [show (hs1 ++ [a]).flatten = hs1.flatten ++ a by simp, foldI_app, ← e4]
  · rintro ρ ⟨hs1, hs2, c, e1, e2, rfl⟩
    obtain rfl : hs2 = [] := by
      cases hs2 with
      | nil => rfl
      | cons a r => cases e2
    rw [List.append_nil] at e1
    subst e1
    simp
    refine ⟨sz_of (by omega), ?_⟩
    refine lc_all hs ti (fun a => .int a.length) rfl (fun a ha K hK => ?_) (fun ρ2 hρ => ?_)
    · simp [lcStep_s]
      exact hK _ rfl
    · refine ⟨hs.map fun a => (a.length : Int), by rw [List.map_map]; rfl, ?_⟩
      have e5 : (hs.map fun a => (a.length : Int)).sum = hs.flatten.length := by
        clear hh h hl main hρ
        induction hs with
        | nil => rfl
        | cons a r ih => simp [ih]
      rw [e5]
      rw [foldI_nodup]
      exact h
theorem hand_item {x y : D} {xs : List D} (h : okDl x) (e : x = .tup xs) (hy : y ∈ xs) : okT y := (h.2 xs e).2 y hy
theorem pu_is_deal : ∀ ds R E, T_is_deal ds R E → r_is_deal (fun x _ => E x) (Ends0 R) (rho0 2 ds) := by
  rintro ds R E ⟨x, rfl, hx, h⟩
  cases x with
  | raw v => simp [okDl] at hx
  | fn v => simp [okDl] at hx
  | tup xs =>
    obtain ⟨hl, hy⟩ := hx.2 xs rfl
    simp [r_is_deal]
    have no : ¬ (1 ≤ xs.length ∧ xs.length ≤ 4) → R (.bl false) := fun hn => by
      have e : isDealD (.tup xs) = false := by
        rw [Bool.eq_false_iff]; intro z
        simp only [isDealD, Bool.and_eq_true, decide_eq_true_eq] at z
        exact hn ⟨z.1.1.1, z.1.1.2⟩
      rw [e] at h; exact h
    refine ⟨fun h1 => ⟨fun h2 => no (by omega), fun h2 => ⟨sz_of (by omega), ?_⟩⟩, fun h1 => no (by omega)⟩
    refine lc_map (fun y => .bl (isHandD y)) rfl (fun y hy2 K hK => ?_) (fun ρ2 hρ => ?_)
    · simp [lcStep_s, hy y hy2]
      exact hK _ rfl
    · refine ⟨xs.map isHandD, by rw [List.map_map]; rfl, fun hf => ?_, fun hf => ?_⟩
      · have hall : ∀ y ∈ xs, isHandD y = true := fun y hy => by
          cases q : isHandD y with
          | true => rfl
          | false => exact (hf (List.mem_map.mpr ⟨y, hy, q⟩)).elim
        have e0 : xs = (xs.map handI).map ti := by
          rw [List.map_map]
          conv => lhs; rw [← List.map_id xs]
          refine List.map_congr_left fun y hy => ?_
          obtain ⟨ns, rfl, _⟩ := hand_ex (hall y hy)
          simp
        rw [back_is (ρ3 := [.dat (.tup xs), .un]) hρ rfl]
        simp
        refine ⟨⟨xs.map handI, e0, by simpa using hl, fun ns hn => ?_⟩, ?_⟩
        · obtain ⟨y, hy, rfl⟩ := List.mem_map.mp hn
          obtain ⟨ns, rfl, hH⟩ := hand_ex (hall y hy)
          rw [handI_ti]; exact hH
        · have e : isDealD (.tup xs) = decide (handsOf (.tup xs)).flatten.Nodup := by
            simp only [isDealD, handsOf]
            rw [decide_eq_true (show 1 ≤ xs.length by omega), decide_eq_true (show xs.length ≤ 4 by omega), List.all_eq_true.mpr hall]; rfl
          rw [← e]; exact h
      · have e : isDealD (.tup xs) = false := by
          rw [Bool.eq_false_iff]; intro z
          simp only [isDealD, Bool.and_eq_true, decide_eq_true_eq, List.all_eq_true] at z
          obtain ⟨y, hy, q⟩ := List.mem_map.mp hf
          rw [z.1.2 y hy] at q; cases q
        rw [e] at h; exact h
  | _ => simpa [r_is_deal, isDealD] using h
theorem pu_check_deal : ∀ ds R E, T_check_deal ds R E → r_check_deal (fun x _ => E x) (Ends0 R) (rho0 1 ds) := by
  rintro ds R E ⟨x, rfl, hx, h1, h2⟩
  simp [r_check_deal, hx]
  exact ⟨h2, h1⟩
theorem mem_tis {c : Int} {ns : List Int} : D.mem (.int c) (ns.map D.int) = decide (c ∈ ns) := mem_ints c ns
theorem holder_loop {all : D} {c : Int} {R : D → Prop} {E : EK} : ∀ (hs : List (List Int)) (n : Nat) (c2 c3 : Cell), R (match hs.findIdx? (fun h => decide (c ∈ h)) with | some i => .int ((n + i : Nat) : Int) | none => .non) →
    forGo (bTup 2 (bCons (bName 2) (bCons (bName 3) bNil))) (dIf (dTst (dInK false fInK (dVar 1) 3)) (dRet (dVar 2)) dNext) E { nx := fun _ => R .non, rt := fun x _ => R x } (((hs.map ti).zipIdx n).map fun p => .tup [.int (p.2 : Nat), p.1]) [.dat all, .dat (.int c), c2, c3]
  | [], n, c2, c3, h => h
  | a :: hs, n, c2, c3, h => by
    rw [List.map_cons, List.zipIdx_cons, List.map_cons]
    rw [List.findIdx?_cons] at h
    simp [forGo]
    refine ⟨fun hc => ?_, fun hc => ?_⟩
    · simpa [hc] using h
    · refine holder_loop hs (n + 1) _ _ ?_
      simp only [hc, decide_false, Bool.false_eq_true, if_false] at h
      cases q : hs.findIdx? (fun h => decide (c ∈ h)) with
      | none => simpa [q] using h
      | some i => rw [q] at h; simpa [show n + (i + 1) = n + 1 + i by omega] using h
theorem holder_R {hs : List (List Int)} {c : Int} {R : D → Prop} (h : R (holdD hs c)) : R (match hs.findIdx? (fun h => decide (c ∈ h)) with | some i => .int ((0 + i : Nat) : Int) | none => .non) := by
  unfold holdD holdI at h
  cases q : hs.findIdx? (fun h => decide (c ∈ h)) with
  | none => rw [q] at h; exact h
  | some i => rw [q] at h; simpa using h
theorem pu_raw_holder : ∀ ds R E, T_raw_holder ds R E → r_raw_holder (fun x _ => E x) (Ends0 R) (rho0 4 ds) := by
  rintro ds R E ⟨x, c, rfl, hd, h⟩
  obtain ⟨hs, rfl, hs2⟩ := deal_ex hd
  rw [handsOf_ti] at h
  simp [r_raw_holder]
  exact holder_loop hs 0 _ _ (holder_R h)
theorem pu__law_holder : ∀ ds R E, T__law_holder ds R E → r__law_holder (fun x _ => E x) (Ends0 R) (rho0 4 ds) := by
  rintro ds R E ⟨x, c, rfl, hd, h⟩
  obtain ⟨hs, rfl, hs2⟩ := deal_ex hd
  rw [handsOf_ti] at h
  simp [r__law_holder]
  exact holder_loop hs 0 _ _ (holder_R h)
theorem pu_holder : ∀ ds R E, T_holder ds R E → r_holder (fun x _ => E x) (Ends0 R) (rho0 2 ds) := by
  rintro ds R E ⟨x, y, rfl, ⟨hx, hy⟩, h1, h2⟩
  simp [r_holder, hx, hy]
  refine ⟨fun e1 => ⟨fun e2 => h1 _ (by simp [holdBad, e1, e2]), fun e2 => ?_⟩, fun e1 => h1 _ (by simp [holdBad, e1])⟩
  have h := h2 (by simp [holdBad, e1, e2])
  obtain ⟨i, rfl, _⟩ := inR_ex e2
  simp [e1]
  exact h
theorem valD_pair {a b c : Int} : (valD (putD (putD [] (.inl a) (.int b)) (.inl b) (.int a)) (.inl c)).getD (.int c) = .int (swI a b c) := by
  unfold swI putD valD
  by_cases h1 : a = b
  · subst h1
    by_cases h2 : c = a
    · subst h2; simp
    · simp [h2, Ne.symm h2]
  · by_cases h2 : c = a
    · subst h2; simp [h1]
    · by_cases h3 : c = b
      · subst h3; simp [h1, h2]
      · simp [h1, h2, h3, Ne.symm h2, Ne.symm h3]
theorem mem_all {p : Int → Prop} {hs : List (List Int)} (h : ∀ a ∈ hs.flatten, p a) : ∀ k ∈ hs, ∀ a ∈ k, p a := fun k hk a ha => h a (List.mem_flatten.mpr ⟨k, hk, ha⟩)
theorem swap_go {hs : List (List Int)} {f : Int → Int} {b : DG} {t : DB} {e : DT} : True := trivial
theorem noC_ok {x y : D} (h : noC x y = false) : ∃ i : Int, y = .int i ∧ 0 ≤ i ∧ i ≤ 51 ∧ (holdI (handsOf x) i).isNone = false := by
  simp only [noC, Bool.or_eq_false_iff, Bool.not_eq_false'] at h
  obtain ⟨i, rfl, h1, h2⟩ := inR_ex h.1
  exact ⟨i, rfl, h1, h2, h.2⟩
theorem holdD_isN {hs : List (List Int)} {c : Int} : (holdD hs c).isN = some (holdI hs c).isNone := by
  unfold holdD
  cases holdI hs c <;> simp
/-- a comprehension over hands: each turned by f, sorted -/
theorem zip_fst (kds : KD) : (kds.map (·.1)).zip (kds.map (·.2)) = kds := by
  induction kds with
  | nil => rfl
  | cons a r ih => simp [ih]
theorem swap_lc {hs : List (List Int)} (hh : ∀ h ∈ hs, Hand h) {f : Int → Int} {elt : DT} {N : Nat} {w ρ1 : Rho} {k : List D → Rho → Prop} (hw : wipeR ρ1 [N] = w)
    (hstep : ∀ (a : List Int), a.length ≤ 52 → ∀ K : Option D → Rho → Prop, (∀ ρ', wipeR ρ' [N] = w → K (some (.tup ((srt (a.map f)).map D.int))) ρ') → lcStep (bName N) dYes elt (ti a) w K)
    (hq : ∀ ρ2, wipeR ρ2 [N] = w → k ((hs.map fun h => srt (h.map f)).map ti) ρ2) : lcGo (bName N) dYes elt [N] k (hs.map ti) [] ρ1 := by
  refine lc_all hs ti (fun a => ti (srt (a.map f))) hw (fun a ha K hK => hstep a (hh a ha).len K hK) (fun ρ2 hρ => ?_)
  have := hq ρ2 hρ
  rw [List.map_map] at this
  exact this
theorem pu_swapped : ∀ ds R E, T_swapped ds R E → r_swapped (fun x _ => E x) (Ends0 R) (rho0 6 ds) := by
  rintro ds R E ⟨x, y, z, rfl, ⟨hx, hy, hz⟩, h1, h2⟩
  have bad : isDealD x = true → (noC x y = true ∨ noC x z = true) → E ("NoCard", []) := fun e1 q => h1 _ (by
    simp only [swapBad, e1]; rw [if_neg (by simp), if_pos q])
  simp [r_swapped, hx, forGo, hy, hz]
  refine ⟨fun e1 => ⟨fun e2 => bad e1 (.inl (by simp [noC, e2])), fun e2 => ?_⟩, fun e1 => h1 _ (by simp [swapBad, e1])⟩
  obtain ⟨i, rfl, i1, i2⟩ := inR_ex e2
  simp [e1, holdD_isN]
  refine ⟨fun e3 => bad e1 (.inl (by simp [noC, e3])), fun e3 => ⟨fun e4 => bad e1 (.inr (by simp [noC, e4])), fun e4 => ?_⟩⟩
  obtain ⟨j, rfl, j1, j2⟩ := inR_ex e4
  simp [e1, holdD_isN]
  refine ⟨fun e5 => bad e1 (.inr (by simp [noC, e5])), fun e5 => ?_⟩
  have h := h2 (by simp [swapBad, e1, noC, e2, e4]; exact ⟨fun z => by simp [z] at e3, fun z => by simp [z] at e5⟩)
  obtain ⟨hs, rfl, hd⟩ := deal_ex e1
  simp
  refine ⟨sz_of (by have := hd.1.2; omega), ?_⟩
  simp only [handsOf_ti, D.toI] at h
  refine swap_lc (f := swI i j) hd.2.1 rfl (fun a ha K hK => ?_) (fun ρ2 hρ => h)
  simp [lcStep_s]
  refine ⟨sz_of (by omega), ?_⟩
  refine lc_all a D.int (fun c => .int (swI i j c)) rfl (fun c hc K2 hK2 => ?_) (fun ρ2 hρ => ?_)
  · simp [lcStep_s]
    rw [zip_fst, valD_pair]
    exact hK2 _ rfl
  · rw [back_same hρ]
    refine ⟨a.map (swI i j), by rw [List.map_map]; rfl, fun ns' p1 p2 => ?_⟩
    rw [srt_of p1 p2]
    exact hK _ rfl
theorem pu__law_swapped : ∀ ds R E, T__law_swapped ds R E → r__law_swapped (fun x _ => E x) (Ends0 R) (rho0 6 ds) := by
  rintro ds R E ⟨x, i, j, rfl, hd0, h⟩
  obtain ⟨hs, rfl, hd⟩ := deal_ex hd0
  rw [handsOf_ti] at h
  simp [r__law_swapped]
  intro p
  refine for_inv (fun r ρ => ∃ (hs1 hs2 : List (List Int)) (c : Cell), hs = hs1 ++ hs2 ∧ r = hs2.map ti ∧ ρ = [.dat (.tup (hs.map ti)), .dat (.int i), .dat (.int j), .own p ((swH i j hs1).map ti), c, .un]) ?_ ?_ ⟨[], hs, .un, rfl, rfl, rfl⟩
  · rintro x r ρ K ⟨hs1, hs2, c, e1, e2, rfl⟩ hK
    obtain ⟨a, hs3, rfl, rfl, rfl⟩ : ∃ a hs3, hs2 = a :: hs3 ∧ x = ti a ∧ r = hs3.map ti := by
      cases hs2 with
      | nil => cases e2
      | cons a hs3 => cases e2; exact ⟨a, hs3, rfl, rfl, rfl⟩
    have ha : Hand a := hd.2.1 a (by rw [e1]; simp)
    simp
    refine ⟨sz_of (by have := ha.len; omega), ?_⟩
    refine lc_all a D.int (fun c => .int (swI i j c)) rfl (fun c hc K2 hK2 => ?_) (fun ρ2 hρ => ?_)
    · simp [lcStep_s]
      unfold swI at hK2
      refine ⟨fun e => ?_, fun e => ⟨fun e2 => ?_, fun e2 => ?_⟩⟩
      · rw [if_pos e] at hK2; exact hK2 _ rfl
      · rw [if_neg e, if_pos e2] at hK2; exact hK2 _ rfl
      · rw [if_neg e, if_neg e2] at hK2; exact hK2 _ rfl
    · rw [back_is (ρ3 := [.dat (.tup (hs.map ti)), .dat (.int i), .dat (.int j), .own p ((swH i j hs1).map ti), .dat (ti a), .un]) hρ rfl]
      refine ⟨a.map (swI i j), by rw [List.map_map]; rfl, fun ns' p1 p2 => ?_⟩
      rw [srt_of p1 p2]
      simp
      refine ⟨lst_lt (by have := hd.1.2; have : hs1.length ≤ hs.length := by rw [e1]; simp
                         simp [swH]; omega), hK _ ⟨hs1 ++ [a], hs3, .dat (ti a), by simp [e1], rfl, ?_⟩⟩
      simp [swH]
  · rintro ρ ⟨hs1, hs2, c, e1, e2, rfl⟩
    obtain rfl : hs2 = [] := by
      cases hs2 with
      | nil => rfl
      | cons a r => cases e2
    rw [List.append_nil] at e1
    subst e1
    simpa using h
end K08
namespace K08
open PySem PySem.Spec PyProof.Rows L2 DL
theorem cutI_to {ns : List Int} {b : Int} (hb : 0 ≤ b) : cutI ns none (some b) = ns.take b.toNat := by
  unfold cutI
  rw [sIx_none, sIx_nat hb, List.drop_zero, Nat.sub_zero]
  by_cases h : b.toNat ≤ ns.length
  · rw [Nat.min_eq_left h]
  · rw [Nat.min_eq_right (by omega), List.take_of_length_le (Nat.le_refl _), List.take_of_length_le (by omega)]
theorem cutI_from {ns : List Int} {a : Int} (ha : 0 ≤ a) : cutI ns (some a) none = ns.drop a.toNat := by
  unfold cutI
  rw [sIx_none, sIx_nat ha]
  by_cases h : a.toNat ≤ ns.length
  · rw [Nat.min_eq_left h, List.take_of_length_le (by rw [List.length_drop]; omega)]
  · rw [Nat.min_eq_right (by omega), List.drop_of_length_le (Nat.le_refl _), List.drop_of_length_le (by omega)]
    simp
theorem hand_of_part {ns' : List Int} (h1 : ∀ x ∈ ns', 0 ≤ x ∧ x < 52) (h2 : ns'.Nodup) (h3 : ns'.Pairwise (· ≤ ·)) : Hand ns' := Hand_of h1 (incr_sorted h2 h3)
theorem pu__law_deal : ∀ ds R E, T__law_deal ds R E → r__law_deal (fun x _ => E x) (Ends0 R) (rhoR 6 ds) := by
  rintro ds R E ⟨rfl, h⟩
  simp [r__law_deal]
  refine ⟨rgOk_s (by omega) (by omega), by decide, fun ys hy p => ?_⟩
  obtain ⟨ns, rfl, hn⟩ := perm_ints hy
  simp [r__law_deal_6, -List.mem_cons, -forall_eq_or_imp]
  intro m hm
  obtain ⟨m, rfl, hm1, hm2⟩ : ∃ i : Int, m = .int i ∧ 1 ≤ i ∧ i ≤ 14 := by
    simp only [List.mem_cons, List.not_mem_nil, or_false] at hm
    rcases hm with rfl | rfl | rfl | rfl <;> exact ⟨_, rfl, by omega, by omega⟩
  simp [r__law_deal_5]
  intro L hL1 hL2
  refine ⟨by omega, by omega, ?_⟩
  have dealOk : ∀ (hs : List (List Int)) (ns : List Int), (hs.flatten ++ ns).Perm (rng 0 52) → (∀ h ∈ hs, Hand h) → 1 ≤ hs.length → hs.length ≤ 4 → DealOk hs := fun hs ns hp hh h1 h2 =>
    ⟨⟨h1, h2⟩, hh, (List.nodup_append.mp (hp.nodup_iff.mpr (rng_nodup 52))).1⟩
  refine for_inv (fun r ρ => ∃ (hs : List (List Int)) (ns : List Int) (c4 c5 : Cell), ρ = [.res, .own p (hs.map ti), .dat (.lst (ns.map D.int)), .dat (.int m), c4, c5] ∧ (hs.flatten ++ ns).Perm (rng 0 52) ∧ (∀ h ∈ hs, Hand h) ∧ (hs.length + r.length : Int) = 1 + L) ?_ ?_ ⟨[], ns, .un, .un, rfl, hn, by simp, by simp [rng]; omega⟩
  · rintro x r ρ K ⟨hs, ns, c4, c5, rfl, hp, hh, hl⟩ hK
    simp only [List.length_cons] at hl
    simp
    refine ⟨⟨by omega, by omega⟩, fun i hi1 hi2 => ?_⟩
    simp [r__law_deal_3]
    intro ns' p1 p2
    rw [cutI_to hi1] at p1
    simp [r__law_deal_2]
    rw [cutI_from hi1]
    refine ⟨lst_lt (by omega), hK _ ⟨hs ++ [ns'], ns.drop i.toNat, .dat x, .dat (.int i), by simp, ?_, ?_, by simp; omega⟩⟩
    · refine List.Perm.trans ?_ hp
      have : (hs.flatten ++ ns) = hs.flatten ++ (ns.take i.toNat ++ ns.drop i.toNat) := by rw [List.take_append_drop]
      rw [this]
      simp only [List.flatten_append, List.flatten_cons, List.flatten_nil, List.append_nil, List.append_assoc]
      exact List.Perm.append_left _ (List.Perm.append_right _ p1)
    · intro a ha
      rcases List.mem_append.mp ha with e | e
      · exact hh a e
      · rw [List.mem_singleton.mp e]
        have hnd : (hs.flatten ++ ns).Nodup := hp.nodup_iff.mpr (rng_nodup 52)
        refine hand_of_part (fun z hz => ?_) ?_ p2
        · have := rng_mem.mp (hp.mem_iff.mp (List.mem_append_right _ (List.mem_of_mem_take (p1.mem_iff.mp hz))))
          exact this
        · exact p1.nodup_iff.mpr ((List.nodup_append.mp hnd).2.1.sublist (List.take_sublist _ _))
  · rintro ρ ⟨hs, ns, c4, c5, rfl, hp, hh, hl⟩
    simp only [List.length_nil] at hl
    simp [r__law_deal_4]
    refine fun i hi1 hi2 => ⟨fun hi0 => ?_, fun _ => ?_⟩
    · obtain ⟨hs', b, rfl⟩ : ∃ hs' b, hs = hs' ++ [b] := by
        rcases List.eq_nil_or_concat hs with e | ⟨a, b, e⟩
        · subst e; simp at hl; omega
        · exact ⟨a, b, by simpa using e⟩
      refine ⟨b, by simp, ?_, b ++ ns, by simp, fun ns' p1 p2 => ⟨hs'.length, ?_, ?_⟩⟩
      · have hl1 := hp.length_eq
        rw [show (rng 0 52).length = 52 by decide] at hl1
        simp at hl1
        exact sz_of (by omega)
      · unfold ixN; simp; omega
      · have hpb : (hs'.flatten ++ (b ++ ns)).Perm (rng 0 52) := by
          refine List.Perm.trans (List.Perm.of_eq ?_) hp
          simp
        have hnd : (hs'.flatten ++ (b ++ ns)).Nodup := hpb.nodup_iff.mpr (rng_nodup 52)
        have hset : ((hs' ++ [b]).map ti).set hs'.length (.tup (ns'.map D.int)) = (hs' ++ [ns']).map ti := by simp
        rw [hset]
        simp [r__law_deal_1]
        have := h (hs' ++ [ns']) (dealOk (hs' ++ [ns']) [] ?_ ?_ (by simp) (by simp at hl ⊢; omega))
        · simpa using this
        · refine List.Perm.trans ?_ hpb
          simp only [List.flatten_append, List.flatten_cons, List.flatten_nil, List.append_nil]
          exact List.Perm.append_left _ p1
        · intro a ha
          rcases List.mem_append.mp ha with e | e
          · exact hh a (List.mem_append_left _ e)
          · rw [List.mem_singleton.mp e]
            refine hand_of_part (fun z hz => ?_) (p1.nodup_iff.mpr (List.nodup_append.mp hnd).2.1) p2
            exact rng_mem.mp (hpb.mem_iff.mp (List.mem_append_right _ (p1.mem_iff.mp hz)))
    · simp [r__law_deal_1]
      exact h hs (dealOk hs ns hp hh (by omega) (by omega))
theorem pu__law_word : ∀ o R, T__law_word o R → r__law_word o R := by
  intro o R h
  match o, h with
  | .inr z, h => exact h
  | .inl (x, fs), ⟨t, hfs, ht, hR⟩ =>
    simp at hfs ht
    subst hfs
    rcases ht with ⟨rfl, rfl⟩ | ⟨rfl, rfl⟩
    all_goals
      refine ⟨rfl, by decide, fun a f => ?_⟩
      simp [dIsE, dIsV]
      refine ⟨fun z => absurd z (by decide +kernel), fun _ => ?_⟩
      simpa using hR
theorem pu__law_deep : ∀ ds R E, T__law_deep ds R E → r__law_deep (fun x _ => E x) (Ends0 R) (rhoR 3 ds) := by
  rintro ds R E ⟨rfl, h⟩
  simp [r__law_deep, -List.mem_cons, -forall_eq_or_imp]
  intro z hz
  intro L hL1 hL2
  refine ⟨by omega, by omega, ?_⟩
  refine for_inv (fun _ ρ => ∃ x c, ρ = [.res, .dat x, c] ∧ DeepD [.non, .int (-1), .str "p", .bl true] x) ?_ ?_ ⟨z, .un, rfl, .base hz⟩
  · rintro y r ρ K ⟨x, c, rfl, hx⟩ hK
    simp
    intro i hi1 hi2
    have : i = 0 ∨ i = 1 ∨ i = 2 := by omega
    rcases this with rfl | rfl | rfl
    · exact ⟨_, rfl, hK _ ⟨_, _, rfl, .tup hx⟩⟩
    · exact ⟨_, rfl, hK _ ⟨_, _, rfl, .lst hx⟩⟩
    · exact ⟨_, rfl, hK _ ⟨_, _, rfl, .dct hx⟩⟩
  · rintro ρ ⟨x, c, rfl, hx⟩
    simp
    exact h x hx
theorem word_swap {x y z : D} {R : D → Prop} (h : R (.str (wordOf (swapBad x y z)))) : True := trivial
theorem pu__law_swap_word : ∀ ds R E, T__law_swap_word ds R E → r__law_swap_word (fun x _ => E x) (Ends0 R) (rho0 3 ds) := by
  rintro ds R E ⟨x, y, z, rfl, ⟨hx, hy, hz⟩, h⟩
  simp [r__law_swap_word, hx, hy, hz]
  refine ⟨fun e he => ?_, fun he => ?_⟩
  · have e2 : e = "NoDeal" ∨ e = "NoCard" := by
      unfold swapBad at he
      split at he
      · exact .inl (Option.some.inj he).symm
      · split at he
        · exact .inr (Option.some.inj he).symm
        · cases he
    rw [he] at h
    rcases e2 with rfl | rfl
    · rw [show wordOf (some ("NoDeal" : Str)) = "deal" by decide +kernel] at h
      exact ⟨_, rfl, by simp, h⟩
    · rw [show wordOf (some ("NoCard" : Str)) = "card" by decide +kernel] at h
      exact ⟨_, rfl, by simp, h⟩
  · rw [he] at h; exact h
theorem pu__law_holder_word : ∀ ds R E, T__law_holder_word ds R E → r__law_holder_word (fun x _ => E x) (Ends0 R) (rho0 2 ds) := by
  rintro ds R E ⟨x, y, rfl, ⟨hx, hy⟩, h⟩
  simp [r__law_holder_word, hx, hy]
  refine ⟨fun e he => ?_, fun he => ?_⟩
  · have e2 : e = "NoDeal" ∨ e = "NoCard" := by
      unfold holdBad at he
      split at he
      · exact .inl (Option.some.inj he).symm
      · split at he
        · exact .inr (Option.some.inj he).symm
        · cases he
    rw [he] at h
    rcases e2 with rfl | rfl
    · rw [show wordOf (some ("NoDeal" : Str)) = "deal" by decide +kernel] at h
      exact ⟨_, rfl, by simp, h⟩
    · rw [show wordOf (some ("NoCard" : Str)) = "card" by decide +kernel] at h
      exact ⟨_, rfl, by simp, h⟩
  · rw [he] at h; exact h
/-! ### what is told of swapped cards -/
theorem swI_self {a b c : Int} : swI a b (swI a b c) = c := by unfold swI; split <;> split <;> (try split) <;> omega
theorem swI_comm (a b : Int) : swI a b = swI b a := by funext c; unfold swI; split <;> split <;> omega
theorem swH_comm (a b : Int) (hs : List (List Int)) : swH a b hs = swH b a hs := by unfold swH; rw [swI_comm]
theorem mem_sw {a b c : Int} {h : List Int} : c ∈ srt (h.map (swI a b)) ↔ swI a b c ∈ h := by
  rw [mem_srt, List.mem_map]
  constructor
  · rintro ⟨d, hd, rfl⟩; rw [swI_self]; exact hd
  · intro hd; exact ⟨_, hd, swI_self⟩
theorem swI_rng {a b c : Int} (ha : 0 ≤ a ∧ a < 52) (hb : 0 ≤ b ∧ b < 52) (hc : 0 ≤ c ∧ c < 52) : 0 ≤ swI a b c ∧ swI a b c < 52 := by unfold swI; split <;> (try split) <;> omega
theorem sw_nodup {a b : Int} {h : List Int} (hh : h.Nodup) : (h.map (swI a b)).Nodup := by
  unfold List.Nodup at *
  rw [List.pairwise_map]
  exact hh.imp fun {x y} hxy z => hxy (by rw [← swI_self (a := a) (b := b) (c := x), z, swI_self])
theorem sw_flat (a b : Int) : ∀ hs : List (List Int), ((swH a b hs).flatten).Perm (hs.flatten.map (swI a b))
  | [] => List.Perm.refl _
  | h :: hs => by
    have ih := sw_flat a b hs
    simp only [swH, List.map_cons, List.flatten_cons, List.map_append]
    exact (srt_perm _).append ih
theorem sw_deal {a b : Int} {hs : List (List Int)} (h : DealOk hs) (ha : 0 ≤ a ∧ a < 52) (hb : 0 ≤ b ∧ b < 52) : DealOk (swH a b hs) := by
  obtain ⟨h1, h2, h3⟩ := h
  refine ⟨by simpa [swH] using h1, fun k hk => ?_, (sw_flat a b hs).nodup_iff.mpr (sw_nodup h3)⟩
  obtain ⟨k0, hk0, rfl⟩ := List.mem_map.mp hk
  refine hand_of_part (fun z hz => ?_) ((srt_perm _).nodup_iff.mpr (sw_nodup (Hand_nodup (h2 k0 hk0)))) (srt_sorted _)
  have := mem_sw.mp hz
  have := (h2 k0 hk0).mem _ this
  rw [← swI_self (a := a) (b := b) (c := z)]
  exact swI_rng ha hb this
theorem sw_back {a b : Int} {hs : List (List Int)} (h : ∀ h ∈ hs, Hand h) : swH a b (swH a b hs) = hs := by
  unfold swH
  rw [List.map_map]
  conv => rhs; rw [← List.map_id hs]
  refine List.map_congr_left fun k hk => ?_
  simp only [Function.comp, id]
  refine (srt_of ?_ (Hand_sorted (h k hk))).symm
  have p := (srt_perm (k.map (swI a b))).map (swI a b)
  rw [List.map_map] at p
  have e : swI a b ∘ swI a b = id := by funext c; exact swI_self
  rw [e, List.map_id] at p
  exact p.symm
theorem hold_sw {a b c : Int} {hs : List (List Int)} : holdI (swH a b hs) c = holdI hs (swI a b c) := by
  unfold holdI swH
  rw [List.findIdx?_map]
  congr 1
  funext h
  simp only [Function.comp, mem_sw]
theorem holdD_sw {a b c : Int} {hs : List (List Int)} : holdD (swH a b hs) c = holdD hs (swI a b c) := by unfold holdD; rw [hold_sw]
theorem hold_of {hs : List (List Int)} {c : Int} (h : c ∈ hs.flatten) : (holdI hs c).isSome = true := by
  unfold holdI
  rw [List.findIdx?_isSome, List.any_eq_true]
  obtain ⟨k, hk, hc⟩ := List.mem_flatten.mp h
  exact ⟨k, hk, by simpa using hc⟩
theorem hold_no {hs : List (List Int)} {c : Int} (h : c ∉ hs.flatten) : holdI hs c = none := by
  unfold holdI
  rw [List.findIdx?_eq_none_iff]
  intro k hk
  simp
  exact fun hc => h (List.mem_flatten.mpr ⟨k, hk, hc⟩)
/-- a deal is left as it is just where one hand holds both -/
theorem sw_same {a b : Int} : ∀ {hs : List (List Int)}, (∀ h ∈ hs, Hand h) → hs.flatten.Nodup → a ∈ hs.flatten → b ∈ hs.flatten → (swH a b hs = hs ↔ holdI hs a = holdI hs b) := by
  intro hs hh hn ha hb
  constructor
  · intro e
    have := hold_sw (a := a) (b := b) (c := a) (hs := hs)
    rw [e] at this
    rw [this]; congr 1; unfold swI; simp
  · intro e
    have hia := hold_of ha
    obtain ⟨i, hi⟩ := Option.isSome_iff_exists.mp hia
    have hib := e ▸ hi
    unfold holdI at hi hib
    obtain ⟨l1, p1, q1⟩ := List.findIdx?_eq_some_iff_getElem.mp hi
    obtain ⟨l2, p2, q2⟩ := List.findIdx?_eq_some_iff_getElem.mp hib
    simp at p1 p2
    have same : ∀ (j : Nat) (hj : j < hs.length) c, c ∈ hs[j] → (c = a ∨ c = b) → j = i := by
      intro j hj c hc hcab
      have hci : c ∈ hs[i] := by rcases hcab with rfl | rfl <;> assumption
      exact Classical.byContradiction fun hne => by
        have hp := (List.pairwise_flatten.mp hn).2
        rcases Nat.lt_or_gt_of_ne hne with hlt | hlt
        · exact List.pairwise_iff_getElem.mp hp j i hj l1 hlt c hc c hci rfl
        · exact List.pairwise_iff_getElem.mp hp i j l1 hj hlt c hci c hc rfl
    unfold swH
    apply List.ext_getElem (by simp)
    intro j h1 h2
    rw [List.getElem_map]
    have hH := hh _ (List.getElem_mem h2)
    by_cases hj : j = i
    · subst hj
      refine (srt_of ?_ (Hand_sorted hH)).symm
      refine (List.perm_ext_iff_of_nodup (Hand_nodup hH) (sw_nodup (Hand_nodup hH))).mpr fun c => ?_
      rw [← mem_srt (ns := hs[j].map (swI a b)), mem_sw]
      unfold swI
      split
      · subst_vars; exact ⟨fun _ => p2, fun _ => p1⟩
      · split
        · subst_vars; exact ⟨fun _ => p1, fun _ => p2⟩
        · exact Iff.rfl
    · have e2 : hs[j].map (swI a b) = hs[j] := by
        conv => rhs; rw [← List.map_id hs[j]]
        refine List.map_congr_left fun c hc => ?_
        unfold swI
        rw [if_neg (fun z => hj (same j h2 c hc (.inl z))), if_neg (fun z => hj (same j h2 c hc (.inr z)))]; rfl
      rw [e2]
      exact (srt_of (List.Perm.refl _) (Hand_sorted hH)).symm
end K08
namespace K08
open PySem PySem.Spec PyProof.Rows L2 DL
theorem tis_eqbs : ∀ hs hs' : List (List Int), D.eqbs (hs.map ti) (hs'.map ti) = decide (hs = hs')
  | [], [] => rfl
  | [], _ :: _ => rfl
  | _ :: _, [] => rfl
  | a :: r, b :: r' => by
    rw [List.map_cons, List.map_cons]
    simp only [D.eqbs]
    rw [tis_eqbs r r', ti_eqb]
    by_cases h : a = b
    · subst h; simp
    · simp [h]
theorem deal_eqb (hs hs' : List (List Int)) : D.eqb (.tup (hs.map ti)) (.tup (hs'.map ti)) = decide (hs = hs') := by
  simp only [D.eqb]; exact tis_eqbs hs hs'
theorem deal_okD {hs : List (List Int)} (h : DealOk hs) : okD 2 (4 * (52 + 1)) (.tup (hs.map ti)) := by
  refine okD_tup (fun y hy => ?_) (by simpa using h.1.2)
  obtain ⟨ns, hn, rfl⟩ := List.mem_map.mp hy
  have hH := h.2.1 ns hn
  exact okD_ti (fun i hi => by have := hH.mem i hi; omega) hH.len
theorem sb_none {hs : List (List Int)} {a b : Int} (h : DealOk hs) (ha : a ∈ hs.flatten) (hb : b ∈ hs.flatten) : swapBad (.tup (hs.map ti)) (.int a) (.int b) = none := by
  have rg : ∀ c ∈ hs.flatten, 0 ≤ c ∧ c < 52 := fun c hc => by
    obtain ⟨k, hk, hc⟩ := List.mem_flatten.mp hc
    exact (h.2.1 k hk).mem c hc
  have r1 := rg a ha
  have r2 := rg b hb
  have n1 := hold_of ha
  have n2 := hold_of hb
  have c : ∀ c : Int, 0 ≤ c ∧ c < 52 → (holdI hs c).isSome = true → noC (.tup (hs.map ti)) (.int c) = false := fun c h1 h2 => by
    have e : DL.inR 0 51 (.int c) = true := by simp; omega
    simp only [noC, e, handsOf_ti, D.toI]
    cases q : holdI hs c with
    | none => rw [q] at h2; cases h2
    | some i => rfl
  unfold swapBad
  rw [deal_of h, c a r1 n1, c b r2 n2]
  simp
theorem hb_none {hs : List (List Int)} {a : Int} (h : DealOk hs) (ha : 0 ≤ a ∧ a < 52) : holdBad (.tup (hs.map ti)) (.int a) = none := by
  have e : DL.inR 0 51 (.int a) = true := by simp; omega
  unfold holdBad
  rw [deal_of h, e]; simp
theorem pool_ex {hs : List (List Int)} (hl : hs.flatten.length ≤ 1000) : ∃ dss : List (List D), hs.map li = dss.map D.lst ∧ (dss.map List.length).sum ≤ sizeLine ∧ dss.flatten = hs.flatten.map D.int := by
  have e : (hs.map fun a => a.map D.int).flatten = hs.flatten.map D.int := by rw [List.map_flatten]
  exact ⟨hs.map fun a => a.map D.int, by rw [List.map_map]; rfl, by rw [← List.length_flatten, e]; exact sz_of (by rw [List.length_map]; omega), e⟩
theorem holdD_eq {hs : List (List Int)} {c : Int} : eqOk (holdD hs c) (holdD hs c) ∧ D.eqb (holdD hs c) (holdD hs c) = true := by
  unfold holdD
  cases holdI hs c with
  | none => exact ⟨eqOk_of rfl rfl (by decide) (by decide), by simp only [D.eqb]⟩
  | some i => simp
theorem holdD_eqb {hs hs' : List (List Int)} {c c' : Int} : D.eqb (holdD hs c) (holdD hs' c') = decide (holdI hs c = holdI hs' c') := by
  unfold holdD
  cases holdI hs c with
  | none => cases holdI hs' c' <;> simp [D.eqb]
  | some i =>
    cases holdI hs' c' with
    | none => simp [D.eqb]
    | some j => simp only [int_eqb, Option.some.injEq]; exact decide_eq_decide.mpr (by omega)
theorem holdD_pl {hs : List (List Int)} {c : Int} : (holdD hs c).plain = true ∧ (holdD hs c).dep ≤ 64 := by
  unfold holdD
  cases holdI hs c with
  | none => exact ⟨rfl, by decide⟩
  | some i => exact ⟨rfl, Nat.zero_le _⟩
theorem holdD_ok {hs hs' : List (List Int)} {c c' : Int} : eqOk (holdD hs c) (holdD hs' c') := eqOk_of holdD_pl.1 holdD_pl.1 holdD_pl.2 holdD_pl.2
theorem pu__law_is_pair_right : ∀ ds R E, T__law_is_pair_right ds R E → r__law_is_pair_right (fun x _ => E x) (Ends0 R) (rho0 8 ds) := by
  rintro ds R E ⟨x, a, b, rfl, ⟨hs, rfl, hd, ha, hb⟩, h⟩
  have rg : ∀ c ∈ hs.flatten, 0 ≤ c ∧ c < 52 := fun c hc => by
    obtain ⟨k, hk, hc⟩ := List.mem_flatten.mp hc
    exact (hd.2.1 k hk).mem c hc
  have hd2 : DealOk (swH a b hs) := sw_deal hd (rg a ha) (rg b hb)
  have mem2 : ∀ c, swI a b c ∈ hs.flatten → c ∈ (swH a b hs).flatten := fun c hc => (sw_flat a b hs).mem_iff.mpr (List.mem_map.mpr ⟨_, hc, swI_self⟩)
  have wa : swI a b a = b := by unfold swI; simp
  have wb : swI a b b = a := by unfold swI; split <;> simp_all
  have k1 := deal_of hd
  have k2 := okDl_of hd
  have k3 := okDl_of hd2
  have k4 := sb_none hd ha hb
  have k5 := sb_none hd hb ha
  have k6 := swH_comm b a hs
  have k7 := (deal_okD hd).rp
  have k8 := (deal_okD hd2).eq (deal_okD hd2)
  have k9 := deal_eqb (swH a b hs) (swH a b hs)
  have k10 : swapBad (.tup ((swH a b hs).map ti)) (.int a) (.int b) = none := sb_none hd2 (mem2 a (by rw [wa]; exact hb)) (mem2 b (by rw [wb]; exact ha))
  have k11 := sw_back (a := a) (b := b) hd.2.1
  have k12 := (deal_okD hd).eq (deal_okD hd)
  have k13 := deal_eqb hs hs
  have k14 := (deal_okD hd2).eq (deal_okD hd)
  have k15 := deal_eqb (swH a b hs) hs
  have hbn : ∀ c ∈ hs.flatten, holdBad (.tup (hs.map ti)) (.int c) = none := fun c hc => hb_none hd (rg c hc)
  have hbn2 : ∀ c ∈ hs.flatten, holdBad (.tup ((swH a b hs).map ti)) (.int c) = none := fun c hc => hb_none hd2 (rg c hc)
  simp [r__law_is_pair_right, k1, k7]
  simp [r__law_is_pair_right_6, k2, k4, k5, k6, k8, k9]
  simp [r__law_is_pair_right_5, k3, k7, k10, k11, k12, k13]
  have hl2 : (swH a b hs).length = hs.length := by simp [swH]
  refine ⟨sz_of (by have := hd.1.2; omega), ?_⟩
  refine lc_all (swH a b hs) ti (fun a => .int a.length) rfl (fun a ha K hK => ?_) (fun ρ2 hρ => ?_)
  · simp [lcStep_s]
    exact hK _ rfl
  rw [back_is (ρ3 := [.dat (.tup (hs.map ti)), .dat (.int a), .dat (.int b), .dat (.tup ((swH a b hs).map ti)), .dat (D.tup (hs.map ti)).text, .un, .un, .un]) hρ rfl]
  simp
  refine ⟨sz_of (by have := hd.1.2; omega), ?_⟩
  refine lc_all hs ti (fun a => .int a.length) rfl (fun a ha K hK => ?_) (fun ρ2 hρ => ?_)
  · simp [lcStep_s]
    exact hK _ rfl
  rw [back_is (ρ3 := [.dat (.tup (hs.map ti)), .dat (.int a), .dat (.int b), .dat (.tup ((swH a b hs).map ti)), .dat (D.tup (hs.map ti)).text, .un, .un, .un]) hρ rfl]
  have e1 : ((swH a b hs).map fun a => D.int a.length) = hs.map fun a => D.int a.length := by simp [swH, Function.comp_def]
  have e2 : D.lst (hs.map fun a => D.int a.length) = .lst ((hs.map fun a => (a.length : Int)).map D.int) := by rw [List.map_map]; rfl
  rw [e1, e2]
  simp only [eqOk_li, li_eqb, true_and, decide_true, Bool.true_eq_false, false_implies, true_implies]
  have hab : a ∈ hs.flatten := ha
  have q1 := hbn a ha
  have q2 := hbn b hb
  have q3 := hbn2 a ha
  have q4 := hbn2 b hb
  have e4 : decide (swH a b hs = hs) = decide (holdI hs a = holdI hs b) := decide_eq_decide.mpr (sw_same hd.2.1 hd.2.2 ha hb)
  simp [r__law_is_pair_right_4, k2, k14, k15, q1, q2, holdD_ok, holdD_eqb, e4]
  simp [r__law_is_pair_right_3, k2, k3, q1, q2, q3, q4, holdD_ok, holdD_eqb, hold_sw, wa, wb]
  simp [r__law_is_pair_right_2]
  refine ⟨sz_of (by have := hd.1.2; omega), ?_⟩
  have hfl := flat_len hd.2.1
  obtain ⟨dss, p1, p2, p3⟩ := pool_ex (hs := hs) (by have := hd.1.2; omega)
  refine lc_all hs ti li rfl (fun a _ K hK => ?_) (fun ρ2 hρ => ⟨dss, p1, p2, ?_⟩)
  · simp [lcStep_s]
    exact hK _ rfl
  rw [p3]
  rw [back_is (ρ3 := [.dat (.tup (hs.map ti)), .dat (.int a), .dat (.int b), .dat (.tup ((swH a b hs).map ti)), .dat (D.tup (hs.map ti)).text, .un, .un, .un]) hρ rfl]
  have hfl4 : hs.flatten.length ≤ 1000 := by have := hd.1.2; omega
  generalize hfe : hs.flatten = fl at *
  simp [r__law_is_pair_right_1]
  refine ⟨sz_of (by omega), ?_⟩
  refine lc_flt fl D.int (fun _ => .bl true) (fun c => !decide (c = a ∨ c = b)) rfl (fun c hc K hK => ?_) (fun ρ2 hρ => by exact all_true h)
  have q5 := hbn c hc
  have q6 := hbn2 c hc
  simp [lcStep_s, D.mem, k2, k3, q5, q6, holdD_ok, holdD_eqb]
  refine ⟨fun n1 n2 => ?_, fun hc => ?_⟩
  · have e5 : swI a b c = c := by unfold swI; rw [if_neg (fun z => n1 z.symm), if_neg (fun z => n2 z.symm)]
    have := hK [.dat (.tup (hs.map ti)), .dat (.int a), .dat (.int b), .dat (.tup ((swH a b hs).map ti)), .dat (D.tup (hs.map ti)).text, .dat (.lst (fl.map D.int)), .un, .dat (.int c)] rfl
    rw [if_pos (by simp; exact ⟨fun z => n1 z.symm, fun z => n2 z.symm⟩)] at this
    simpa [hold_sw, e5] using this
  · have := hK [.dat (.tup (hs.map ti)), .dat (.int a), .dat (.int b), .dat (.tup ((swH a b hs).map ti)), .dat (D.tup (hs.map ti)).text, .dat (.lst (fl.map D.int)), .un, .dat (.int c)] rfl
    rw [if_neg (by simp; intro n1; exact (hc fun z => n1 z.symm).symm)] at this
    exact this
theorem pu__law_is_right : ∀ ds R E, T__law_is_right ds R E → r__law_is_right (fun x _ => E x) (Ends0 R) (rhoR 6 ds) := by
  rintro ds R E ⟨x, rfl, ⟨hs, rfl, hd⟩, h⟩
  have k1 := deal_of hd
  have k2 := okDl_of hd
  have hfl := flat_len hd.2.1
  have hl4 := hd.1.2
  simp [r__law_is_right]
  refine ⟨by decide, ?_⟩
  refine lc_all (rng 0 52) D.int (fun _ => .bl true) rfl (fun c hc K hK => ?_) (fun ρ2 hρ => ⟨(rng 0 52).map (fun _ => true), by rw [List.map_map]; rfl, fun z => by simp at z, fun _ => ?_⟩)
  · have hc := rng_mem.mp hc
    have q := hb_none hd hc
    have rp : (holdD hs c).rp := by
      unfold holdD
      cases hq : holdI hs c with
      | none => exact okD.rp (n := 0) (w := 0) okD_non
      | some i =>
        have : i < hs.length := by
          unfold holdI at hq
          exact (List.findIdx?_eq_some_iff_getElem.mp hq).1
        exact okD.rp (n := 0) (w := 0) (okD_i (by omega) (by omega))
    simp [lcStep_s, k1, k2, q, rp]
    exact hK _ rfl
  rw [back_is (ρ3 := [.res, .dat (.tup (hs.map ti)), .un, .un, .un, .un]) hρ rfl]
  simp
  refine ⟨sz_of (by omega), ?_⟩
  obtain ⟨dss, p1, p2, p3⟩ := pool_ex (hs := hs) (by omega)
  refine lc_all hs ti li rfl (fun a _ K hK => ?_) (fun ρ2 hρ => ⟨dss, p1, p2, ?_⟩)
  · simp [lcStep_s]
    exact hK _ rfl
  rw [p3]
  rw [back_is (ρ3 := [.res, .dat (.tup (hs.map ti)), .un, .un, .un, .un]) hρ rfl]
  have pr : ∀ {a b : Int}, a ∈ hs.flatten → b ∈ hs.flatten → T__law_is_pair_right [.tup (hs.map ti), .int a, .int b] R E := fun ha hb => ⟨_, _, _, rfl, ⟨hs, rfl, hd, ha, hb⟩, h⟩
  have hfl4 : hs.flatten.length ≤ 1000 := by omega
  generalize hfe : hs.flatten = fl at *
  have pr2 : ∀ {a b : Int}, a ∈ fl → b ∈ fl → ∃ hs_1 : List (List Int), hs.map ti = hs_1.map ti ∧ DealOk hs_1 ∧ (∃ l, l ∈ hs_1 ∧ a ∈ l) ∧ ∃ l, l ∈ hs_1 ∧ b ∈ l := fun ha hb => ⟨hs, rfl, hd, List.mem_flatten.mp (hfe ▸ ha), List.mem_flatten.mp (hfe ▸ hb)⟩
  have fin : ¬ fl = [] → ∃ a, fl[0]? = some a ∧ ∃ b, fl[0]? = some b ∧ (∃ hs_1 : List (List Int), hs.map ti = hs_1.map ti ∧ DealOk hs_1 ∧ (∃ l, l ∈ hs_1 ∧ a ∈ l) ∧ ∃ l, l ∈ hs_1 ∧ b ∈ l) ∧ R (.bl true) := fun hne => by
    cases fl with
    | nil => simp at hne
    | cons a r => exact ⟨a, rfl, a, rfl, pr2 List.mem_cons_self List.mem_cons_self, h⟩
  simp
  refine ⟨fun hpos => ?_, fun h0 => ?_⟩
  · refine for_inv (fun r ρ => ∃ c3, ρ = [.res, .dat (.tup (hs.map ti)), .dat (.lst (fl.map D.int)), c3, .un, .un]) ?_ ?_ ⟨_, rfl⟩
    · rintro x r ρ K ⟨c3, rfl⟩ hK
      simp
      refine ⟨fun z => by subst z; simp at hpos, by omega, fun a ha => ⟨fun z => by subst z; simp at hpos, by omega, fun b hb => ⟨pr2 ha hb, hK _ ⟨_, rfl⟩⟩⟩⟩
    · rintro ρ ⟨c3, rfl⟩
      simp
      exact ⟨fun _ => h, fin⟩
  · have e : rng 0 0 = [] := by decide
    rw [e]
    simp [forGo]
    exact ⟨fun _ => h, fin⟩
end K08
namespace K08
open PySem PySem.Spec PyProof.Rows L2 DL
/-- what is no deal, or no card -/
theorem deep_facts {bs : List D} (hb : ∀ x ∈ bs, x.tyN.isSome = true ∧ DL.inR 0 51 x = false ∧ (∀ xs, x ≠ .tup xs)) {x : D} (h : DeepD bs x) : x.tyN.isSome = true ∧ DL.inR 0 51 x = false ∧ okT x ∧ isHandD x = false ∧ okDl x ∧ isDealD x = false := by
  induction h with
  | @base x hx =>
    obtain ⟨h1, h2, h3⟩ := hb x hx
    have h4 : okT x := ⟨h1, fun xs e => absurd e (h3 xs)⟩
    have h5 : isHandD x = false := by
      cases x with
      | tup xs => exact absurd rfl (h3 xs)
      | _ => rfl
    have h6 : isDealD x = false := by
      cases x with
      | tup xs => exact absurd rfl (h3 xs)
      | _ => rfl
    exact ⟨h1, h2, h4, h5, ⟨h1, fun xs e => absurd e (h3 xs)⟩, h6⟩
  | @tup x _ ih =>
    obtain ⟨h1, h2, h3, h4, h5, h6⟩ := ih
    refine ⟨rfl, rfl, okT_tup (by simp) (by simpa using h1), by simp [isHandD, h2], ⟨rfl, fun xs e => by cases e; exact ⟨by simp, by simpa using h3⟩⟩, by simp [isDealD, h4]⟩
  | lst _ _ => exact ⟨rfl, rfl, okT_lst, rfl, ⟨rfl, fun xs e => by cases e⟩, rfl⟩
  | dct _ _ => exact ⟨rfl, rfl, okT_dct, rfl, ⟨rfl, fun xs e => by cases e⟩, rfl⟩
theorem deep_bag {x : D} (h : DeepD [.non, .int (-1), .str "p", .bl true] x) : x.tyN.isSome = true ∧ DL.inR 0 51 x = false ∧ okT x ∧ isHandD x = false ∧ okDl x ∧ isDealD x = false := deep_facts (fun x hx => by
  simp only [List.mem_cons, List.not_mem_nil, or_false] at hx
  rcases hx with rfl | rfl | rfl | rfl <;> exact ⟨rfl, by decide +kernel, fun xs e => by cases e⟩) h
theorem okDl_not {x : D} (h : x.tyN.isSome = true) (h2 : ∀ xs, x ≠ .tup xs) : okDl x ∧ isDealD x = false := ⟨⟨h, fun xs e => absurd e (h2 xs)⟩, by
  cases x with
  | tup xs => exact absurd rfl (h2 xs)
  | _ => rfl⟩
theorem okDl_tup {xs : List D} (h : xs.length ≤ 1000) (h2 : ∀ y ∈ xs, okT y) : okDl (.tup xs) := ⟨rfl, fun ys e => by cases e; exact ⟨h, h2⟩⟩
theorem pu__law_are_refused : ∀ ds R E, T__law_are_refused ds R E → r__law_are_refused (fun x _ => E x) (Ends0 R) (rhoR 11 ds) := by
  rintro ds R E ⟨x, rfl, ⟨hs, rfl, hd⟩, h⟩
  have k1 := deal_of hd
  have k2 := okDl_of hd
  have hfl := flat_len hd.2.1
  have hl4 := hd.1.2
  simp [r__law_are_refused, -List.mem_cons, -forall_eq_or_imp]
  simp [r__law_are_refused_15, -List.mem_cons, -forall_eq_or_imp]
  intro dp hdp none hnone
  have hdp := deep_bag hdp
  have hn : okDl none ∧ isDealD none = false := by
    simp only [List.mem_append, List.mem_cons, List.not_mem_nil, or_false] at hnone
    rcases hnone with rfl | rfl | rfl | rfl | rfl | rfl | rfl | rfl | rfl | rfl | rfl | rfl | rfl | rfl
    · exact okDl_not rfl (fun xs e => by cases e)
    · exact okDl_not rfl (fun xs e => by cases e)
    · exact ⟨okDl_tup (by simp) (by simp), by decide +kernel⟩
    · exact ⟨okDl_tup (by simp) (by simp [okT]), by decide +kernel⟩
    · exact okDl_not rfl (fun xs e => by cases e)
    · exact ⟨okDl_tup (by simp) (by simp [okT]), by decide +kernel⟩
    · exact ⟨okDl_tup (by simp) (by simp [okT]), by decide +kernel⟩
    · exact ⟨okDl_tup (by simp) (by simp [okT]), by decide +kernel⟩
    · exact okDl_not rfl (fun xs e => by cases e)
    · exact ⟨okDl_tup (by simp) (by simp [okT]), by decide +kernel⟩
    · exact ⟨okDl_tup (by simp) (by simp [okT]), by decide +kernel⟩
    · exact okDl_not rfl (fun xs e => by cases e)
    · exact ⟨okDl_tup (by simp) (by simp [okT]), by decide +kernel⟩
    · exact ⟨hdp.2.2.2.2.1, hdp.2.2.2.2.2⟩
  simp [r__law_are_refused_14, -List.mem_cons, -forall_eq_or_imp]
  refine ⟨by unfold CPow; decide, fun dp2 hdp2 odd hodd => ?_⟩
  have hdp2 := deep_bag hdp2
  have ho : odd.tyN.isSome = true ∧ DL.inR 0 51 odd = false := by
    simp only [List.mem_cons, List.not_mem_nil, or_false] at hodd
    rcases hodd with rfl | rfl | rfl | rfl | rfl | rfl | rfl | rfl | rfl | rfl
    · exact ⟨rfl, by decide +kernel⟩
    · exact ⟨rfl, by decide +kernel⟩
    · exact ⟨rfl, by decide +kernel⟩
    · exact ⟨rfl, by decide +kernel⟩
    · exact ⟨rfl, by decide +kernel⟩
    · exact ⟨rfl, by decide +kernel⟩
    · exact ⟨rfl, by decide +kernel⟩
    · exact ⟨rfl, by decide +kernel⟩
    · exact ⟨rfl, by decide +kernel⟩
    · exact ⟨hdp2.1, hdp2.2.1⟩
  have w1 : wordOf (some ("NoDeal" : Str)) = "deal" := by decide +kernel
  have w2 : wordOf (some ("NoCard" : Str)) = "card" := by decide +kernel
  have b1 : holdBad none odd = some ("NoDeal" : Str) := by simp [holdBad, hn.2]
  have b2 : holdBad (.tup (hs.map ti)) odd = some ("NoCard" : Str) := by simp [holdBad, k1, ho.2]
  have b3 : swapBad none odd odd = some ("NoDeal" : Str) := by simp [swapBad, hn.2]
  have nc : noC (.tup (hs.map ti)) odd = true := by simp [noC, ho.2]
  have b4 : ∀ y, swapBad (.tup (hs.map ti)) odd y = some ("NoCard" : Str) := fun y => by simp [swapBad, k1, nc]
  have b5 : ∀ y, swapBad (.tup (hs.map ti)) y odd = some ("NoCard" : Str) := fun y => by simp [swapBad, k1, nc]
  have nf : ∀ c : Int, c ∉ hs.flatten → noC (.tup (hs.map ti)) (.int c) = true := fun c hc => by
    simp only [noC, handsOf_ti, D.toI, hold_no hc]; simp
  have b6 : ∀ (c : Int) y, c ∉ hs.flatten → swapBad (.tup (hs.map ti)) (.int c) y = some ("NoCard" : Str) := fun c y hc => by simp only [swapBad, k1, nf c hc]; simp
  have b7 : ∀ (c : Int) y, c ∉ hs.flatten → swapBad (.tup (hs.map ti)) y (.int c) = some ("NoCard" : Str) := fun c y hc => by simp only [swapBad, k1, nf c hc]; simp
  have hfl4 : hs.flatten.length ≤ 1000 := by omega
  simp [r__law_are_refused_13, hn.1, k2, ho.1, b1, b2, b3, w1, w2]
  intro p
  simp [r__law_are_refused_12, k2, ho.1, b4, w2]
  refine ⟨by decide, ?_⟩
  simp [r__law_are_refused_11]
  intro p2
  simp [r__law_are_refused_10]
  refine ⟨sz_of (by omega), ?_⟩
  obtain ⟨dss, q1, q2, q3⟩ := pool_ex (hs := hs) hfl4
  refine lc_all hs ti li rfl (fun a _ K hK => ?_) (fun ρ2 hρ => ⟨dss, q1, q2, ?_⟩)
  · simp [lcStep_s]
    exact hK _ rfl
  rw [q3]
  generalize hsm : D.lst [D.non, D.int 0, D.tup [], D.tup [D.tup [D.int 0], D.tup [D.int 0]], D.lst (List.map ti hs), D.tup [D.tup [D.int 1, D.int 0]], D.tup [D.tup [D.int 52]], D.tup [D.tup [], D.tup [], D.tup [], D.tup [], D.tup []], D.dct [] [], D.tup [D.tup [D.bl true]], D.tup [D.int 0, D.int 1], D.str (Str.ofString "deal")] = sm at *
  rw [back_same hρ]
  generalize hfe : hs.flatten = fl at *
  simp [backR, backC]
  simp [r__law_are_refused_9]
  refine ⟨by decide, ?_⟩
  refine lc_flt (rng 0 52) D.int D.int (fun c => decide (c ∉ fl)) rfl (fun c hc K hK => ?_) (fun ρ2 hρ => ?_)
  · simp [lcStep_s]
    have := hK [.res, .dat (.tup (hs.map ti)), .dat sm, .dat none, .dat odd, .own p [.str "deal", .str "card", .str "deal", .str "card"], .own p2 [.str "deal", .str "card", .str "deal", .str "card"], .dat (.lst (fl.map D.int)), .dat (.int c), .un, .un] rfl
    by_cases hm : c ∈ fl
    · simpa [hm] using this
    · simpa [hm] using this
  generalize hfr : (rng 0 52).filter (fun c => decide (c ∉ fl)) = fr
  rw [back_same hρ]
  simp [backR, backC]
  have hfr1 : ∀ c ∈ fr, c ∉ fl := fun c hc => by rw [← hfr] at hc; simpa using (List.mem_filter.mp hc).2
  have hfrl : fr.length ≤ 52 := by
    rw [← hfr]
    have := List.length_filter_le (fun c => decide (c ∉ fl)) (rng 0 52)
    rw [show (rng 0 52).length = 52 by decide] at this; exact this
  have good : ∀ ws : List D, (∀ y ∈ ws, y = .str "deal" ∨ y = .str "card") → ws.length ≤ 9 → eqOk (.lst ws) (.lst ws) ∧ D.eqb (.lst ws) (.lst ws) = true := fun ws h1 h2 => by
    have ok : okD 1 (9 * (4 + 1)) (.lst ws) := okD_lst (fun y hy => by
      rcases h1 y hy with rfl | rfl
      · exact okD_str (by decide) (by decide)
      · exact okD_str (by decide) (by decide)) h2
    exact ⟨ok.eq ok, eqb_self _ ok.1⟩
  have t2 : ∀ (ws : List D) (c8 : Cell) (p p2 : Addr), (∀ y ∈ ws, y = .str "deal" ∨ y = .str "card") → ws.length ≤ 9 → r__law_are_refused_2 (fun x _ => E x) (Ends0 R) [.res, .dat (.tup (hs.map ti)), .dat sm, .dat none, .dat odd, .own p ws, .own p2 ws, .dat (.lst (fl.map D.int)), c8, .dat (.lst (fr.map D.int)), .un] := fun ws c8 p p2 h1 h2 => by
    obtain ⟨e1, e2⟩ := good ws h1 h2
    simp [r__law_are_refused_2, e1, e2, h]
  have ext : ∀ (ws : List D) (d : D), (∀ y ∈ ws, y = .str "deal" ∨ y = .str "card") → d = .str "card" → ∀ y ∈ ws ++ [d], y = .str "deal" ∨ y = .str "card" := fun ws d h1 hd y hy => by
    rcases List.mem_append.mp hy with e | e
    · exact h1 y e
    · rw [List.mem_singleton.mp e]; exact .inr hd
  have ext2 : ∀ (ws : List D), (∀ y ∈ ws, y = .str "deal" ∨ y = .str "card") → ∀ y ∈ ws ++ [.str "card", .str "card"], y = .str "deal" ∨ y = .str "card" := fun ws h1 y hy => by
    rcases List.mem_append.mp hy with e | e
    · exact h1 y e
    · simp at e; exact .inr e
  have t5 : ∀ (ws : List D) (c8 : Cell) (p p2 : Addr), (∀ y ∈ ws, y = .str "deal" ∨ y = .str "card") → ws.length ≤ 8 → r__law_are_refused_5 (fun x _ => E x) (Ends0 R) [.res, .dat (.tup (hs.map ti)), .dat sm, .dat none, .dat odd, .own p ws, .own p2 ws, .dat (.lst (fl.map D.int)), c8, .dat (.lst (fr.map D.int)), .un] := fun ws c8 p p2 h1 h2 => by
    simp [r__law_are_refused_5]
    refine ⟨fun hpos => ?_, fun _ => t2 ws c8 p p2 h1 (by omega)⟩
    cases fr with
    | nil => simp at hpos
    | cons c r =>
      refine ⟨c, rfl, ?_⟩
      have hc := hfr1 c List.mem_cons_self
      simp [k2, b6 c _ hc, w2]
      refine ⟨lst_lt (by omega), ?_⟩
      simp [r__law_are_refused_1]
      exact ⟨lst_lt (by omega), t2 _ c8 p p2 (ext ws _ h1 rfl) (by simp; omega)⟩
  have t7 : ∀ (ws : List D) (c8 : Cell) (p p2 : Addr), (∀ y ∈ ws, y = .str "deal" ∨ y = .str "card") → ws.length ≤ 6 → r__law_are_refused_7 (fun x _ => E x) (Ends0 R) [.res, .dat (.tup (hs.map ti)), .dat sm, .dat none, .dat odd, .own p ws, .own p2 ws, .dat (.lst (fl.map D.int)), c8, .dat (.lst (fr.map D.int)), .un] := fun ws c8 p p2 h1 h2 => by
    simp [r__law_are_refused_7]
    refine ⟨fun hp => ⟨fun hp2 => ⟨fun z => by subst z; simp at hp, by omega, fun c hc => ?_⟩, fun _ => t5 ws c8 p p2 h1 (by omega)⟩, fun _ => t5 ws c8 p p2 h1 (by omega)⟩
    obtain ⟨fl', z, hfl'⟩ : ∃ fl' z, fl = fl' ++ [z] := by
      rcases List.eq_nil_or_concat fl with e | ⟨a, b, e⟩
      · subst e; simp at hp2
      · exact ⟨a, b, by simpa using e⟩
    have ea : fl[fl.length - 1]? = some z := by rw [hfl']; simp
    have ea2 : fl.getLast? = some z := by rw [hfl']; simp
    have hc2 := hfr1 c hc
    simp [r__law_are_refused_4, ea2, k2, b6 c _ hc2, b7 c _ hc2, w2]
    refine ⟨lst_lt (by omega), fun p3 => ?_⟩
    simp [r__law_are_refused_3]
    exact ⟨sz_of (by omega), fun p4 => t5 _ (.dat (.int c)) p3 p4 (ext2 ws h1) (by simp; omega)⟩
  have t8 : ∀ (ws : List D) (c8 : Cell) (p p2 : Addr), (∀ y ∈ ws, y = .str "deal" ∨ y = .str "card") → ws.length ≤ 4 → r__law_are_refused_8 (fun x _ => E x) (Ends0 R) [.res, .dat (.tup (hs.map ti)), .dat sm, .dat none, .dat odd, .own p ws, .own p2 ws, .dat (.lst (fl.map D.int)), c8, .dat (.lst (fr.map D.int)), .un] := fun ws c8 p p2 h1 h2 => by
    simp [r__law_are_refused_8]
    refine ⟨fun hp => ?_, fun _ => t7 ws c8 p p2 h1 (by omega)⟩
    cases hfl0 : fl with
    | nil => rw [hfl0] at hp; simp at hp
    | cons a r =>
      have e0 : fl[0]? = some a := by rw [hfl0]; rfl
      rw [← hfl0]
      refine ⟨a, e0, ⟨k2, ho.1⟩, a, e0, ⟨k2, ho.1⟩, sz_of (by omega), fun p3 => ?_⟩
      rw [b4, b5, w2]
      simp [r__law_are_refused_6]
      exact ⟨sz_of (by omega), fun p4 => t7 _ c8 p3 p4 (ext2 ws h1) (by simp; omega)⟩
  exact t8 [.str "deal", .str "card", .str "deal", .str "card"] .un p p2 (by simp) (by simp)
theorem pu_law : r_law (fun _ _ => False) { nx := fun _ => False, rt := fun x _ => x = .bl true } (.un :: .res :: List.replicate (4 - 2) .un) := by
  have g : DealOk [[0, 5], [3, 9]] := ⟨by decide, by simp; exact ⟨Hand_of (by simp) (by decide), Hand_of (by simp) (by decide)⟩, by decide⟩
  have g2 : DealOk [[], [7]] := ⟨by decide, by simp; exact ⟨Hand_of (by simp) (by decide), Hand_of (by simp) (by decide)⟩, by decide⟩
  have okA : okDl (.tup [.tup [.int 0, .int 5], .tup [.int 3, .int 9]]) := okDl_of g
  have okB : okDl (.tup [.tup [], .tup [.int 7]]) := okDl_of g2
  have s1 : swapBad (.tup [.tup [.int 0, .int 5], .tup [.int 3, .int 9]]) (.int 5) (.int 3) = none := by decide +kernel
  have s2 : swapBad (.tup [.tup [.int 0, .int 5], .tup [.int 3, .int 9]]) (.int 0) (.int 5) = none := by decide +kernel
  have s3 : swapBad (.tup [.tup [.int 0, .int 5], .tup [.int 3, .int 9]]) (.int 4) (.int 0) = some ("NoCard" : Str) := by decide +kernel
  have h1 : holdBad (.tup [.tup [.int 0, .int 5], .tup [.int 3, .int 9]]) (.int 9) = none := by decide +kernel
  have h2 : holdBad (.tup [.tup [.int 0, .int 5], .tup [.int 3, .int 9]]) (.int 4) = none := by decide +kernel
  have h3 : holdBad (.tup [.tup [], .tup [.int 7]]) (.int 7) = none := by decide +kernel
  have e1 : handsOf (.tup [.tup [.int 0, .int 5], .tup [.int 3, .int 9]]) = [[0, 5], [3, 9]] := rfl
  have e2 : handsOf (.tup [.tup [], .tup [.int 7]]) = [[], [7]] := rfl
  have v1 : swH 5 3 [[0, 5], [3, 9]] = [[0, 3], [5, 9]] := by decide +kernel
  have v2 : swH 0 5 [[0, 5], [3, 9]] = [[0, 5], [3, 9]] := by decide +kernel
  have v3 : holdD [[0, 5], [3, 9]] 9 = .int 1 := by rfl
  have v4 : holdD [[0, 5], [3, 9]] 4 = .non := by rfl
  have v5 : holdD [[], [7]] 7 = .int 1 := by rfl
  have w2 : wordOf (some ("NoCard" : Str)) = "card" := by decide +kernel
  have q1 : eqOk (.tup [ti [0, 3], ti [5, 9]]) (.tup [.tup [.int 0, .int 3], .tup [.int 5, .int 9]]) ∧ D.eqb (.tup [ti [0, 3], ti [5, 9]]) (.tup [.tup [.int 0, .int 3], .tup [.int 5, .int 9]]) = true := eq_same (x := .tup [.tup [.int 0, .int 3], .tup [.int 5, .int 9]]) (by decide +kernel) (by decide +kernel)
  have q2 : eqOk (.tup [ti [0, 5], ti [3, 9]]) (.tup [.tup [.int 0, .int 5], .tup [.int 3, .int 9]]) ∧ D.eqb (.tup [ti [0, 5], ti [3, 9]]) (.tup [.tup [.int 0, .int 5], .tup [.int 3, .int 9]]) = true := eq_same (x := .tup [.tup [.int 0, .int 5], .tup [.int 3, .int 9]]) (by decide +kernel) (by decide +kernel)
  simp [r_law]
  simp [r_law_5, okA, s1, s2, e1, v1, v2, q1, q2, h1, v3]
  simp [r_law_4, okA, okB, h2, h3, e1, e2, v4, v5, s3, w2]
  simp [r_law_3]
  refine for_inv (fun r ρ => ∃ c2 c3, ρ = [.un, .res, .dat c2, c3]) ?_ ?_ ⟨_, _, rfl⟩
  · rintro x r ρ K ⟨c2, c3, rfl⟩ hK
    simp
    intro hs hd
    simp [r_law_1]
    exact ⟨⟨hs, rfl, hd⟩, hK _ ⟨_, _, rfl⟩⟩
  · rintro ρ ⟨c2, c3, rfl⟩
    simp [r_law_2]
end K08
namespace K08
open PySem PySem.Spec PyProof.Rows L2 LamX DL
abbrev topS (i : Nat) : Stmt := PySem.Challenge.pw_cardtable_k08_whole_holders_and_swapped.main.body.getD i (.Pass ⟨0, 0, 0, 0⟩)
structure Txt (K : PySem.W.Frag) (mg : Str → Option Value) : Prop where
  b_bool : mg "bool" = none
  b_isinstance : mg "isinstance" = none
  b_int : mg "int" = none
  b_len : mg "len" = none
  b_sum : mg "sum" = none
  b_enumerate : mg "enumerate" = none
  b_abs : mg "abs" = none
  b_tuple : mg "tuple" = none
  b_sorted : mg "sorted" = none
  b_ValueError : mg "ValueError" = none
  b_list : mg "list" = none
  b_range : mg "range" = none
  b_zip : mg "zip" = none
  b_all : mg "all" = none
  b_repr : mg "repr" = none
  g_CARDS_MANY : ∃ t, mg "CARDS_MANY" = some (.int 52 t)
  g_MOST_PLAYERS : ∃ t, mg "MOST_PLAYERS" = some (.int 4 t)
abbrev s_is_integer : Stmt := topS 1
abbrev N_is_integer : List Str := ["thing"]
theorem sc_is_integer : FnScope N_is_integer ["thing"] (defScope s_is_integer) := ⟨rfl, rfl, rfl, by decide +kernel, rfl, by decide +kernel, by decide +kernel⟩
theorem k_is_integer {P : Program} {w : World} {K : PySem.W.Frag} {mg : Str → Option Value} {base : Heap} (F : Has K mg "is_integer" s_is_integer ["thing"]) (Tx : Txt K mg) (Er : Errs K mg "CardError" ["NoCard", "NoDeal"])  : Can false P w K mg base 1 "is_integer" ["thing"] (spP K T_is_integer) :=
  can_p F sc_is_integer len_is_integer (fun f cdv A outer s H E hr hgd => by
    exact (ss_one (st_ret (de_and (de_callB call_isiAll cd_isi rfl Tx.b_isinstance bt_isinstance (da_cons (de_v 0) (da_cons (de_bltn rfl Tx.b_int bt_int (v := .ty "int") rfl) da_nil))) (de_one (de_not (de_callB call_isiAll cd_isi rfl Tx.b_isinstance bt_isinstance (da_cons (de_v 0) (da_cons (de_bltn rfl Tx.b_bool bt_bool (v := .ty "bool") rfl) da_nil))))))))) pu_is_integer
abbrev s_is_within : Stmt := topS 2
abbrev N_is_within : List Str := ["thing", "least", "most"]
theorem sc_is_within : FnScope N_is_within ["thing", "least", "most"] (defScope s_is_within) := ⟨rfl, rfl, rfl, by decide +kernel, rfl, by decide +kernel, by decide +kernel⟩
theorem k_is_within {P : Program} {w : World} {K : PySem.W.Frag} {mg : Str → Option Value} {base : Heap} (F : Has K mg "is_within" s_is_within ["thing", "least", "most"]) (Tx : Txt K mg) (Er : Errs K mg "CardError" ["NoCard", "NoDeal"]) (c_is_integer : Can false P w K mg base 1 "is_integer" ["thing"] (spP K T_is_integer)) : Can false P w K mg base 2 "is_within" ["thing", "least", "most"] (spP K T_is_within) :=
  can_p F sc_is_within len_is_within (fun f cdv A outer s H E hr hgd => by
    exact (ss_one (st_ret (de_and (de_c c_is_integer mono_is_integer hr (by omega) (fun h => by cases h) rfl tkW (da_cons (de_v 0) da_nil)) (de_one (de_chain op_le opd_cmp op_le opd_cmp (de_v 1) (de_v 0) (de_v 2))))))) pu_is_within
abbrev s_is_card : Stmt := topS 9
abbrev N_is_card : List Str := ["thing"]
theorem sc_is_card : FnScope N_is_card ["thing"] (defScope s_is_card) := ⟨rfl, rfl, rfl, by decide +kernel, rfl, by decide +kernel, by decide +kernel⟩
theorem k_is_card {P : Program} {w : World} {K : PySem.W.Frag} {mg : Str → Option Value} {base : Heap} (F : Has K mg "is_card" s_is_card ["thing"]) (Tx : Txt K mg) (Er : Errs K mg "CardError" ["NoCard", "NoDeal"]) (c_is_within : Can false P w K mg base 2 "is_within" ["thing", "least", "most"] (spP K T_is_within)) : Can false P w K mg base 3 "is_card" ["thing"] (spP K T_is_card) :=
  can_p F sc_is_card len_is_card (fun f cdv A outer s H E hr hgd => by
    exact (ss_one (st_ret (de_c c_is_within mono_is_within hr (by omega) (fun h => by cases h) rfl tkW (da_cons (de_v 0) (da_cons de_int (da_cons (de_bin op_sub opd_sub (de_gi Tx.g_CARDS_MANY) de_int) da_nil))))))) pu_is_card
abbrev s_is_hand : Stmt := topS 10
abbrev N_is_hand : List Str := ["thing", "one", "other", "card"]
theorem sc_is_hand : FnScope N_is_hand ["thing"] (defScope s_is_hand) := ⟨rfl, rfl, rfl, by decide +kernel, rfl, by decide +kernel, by decide +kernel⟩
theorem k_is_hand {P : Program} {w : World} {K : PySem.W.Frag} {mg : Str → Option Value} {base : Heap} (F : Has K mg "is_hand" s_is_hand ["thing"]) (Tx : Txt K mg) (Er : Errs K mg "CardError" ["NoCard", "NoDeal"]) (c_is_card : Can false P w K mg base 3 "is_card" ["thing"] (spP K T_is_card)) : Can false P w K mg base 4 "is_hand" ["thing"] (spP K T_is_hand) :=
  can_p F sc_is_hand len_is_hand (fun f cdv A outer s H E hr hgd => by
    exact (ss_cons (st_if (dt_w (dw_or (dt_not (dt_tru (de_callB call_isiAll cd_isi rfl Tx.b_isinstance bt_isinstance (da_cons (de_v 0) (da_cons (de_bltn rfl Tx.b_tuple bt_tuple (v := .ty "tuple") rfl) da_nil))))) (dw_or1 (dt_not (dt_tru (de_callB (cr_all rfl) cd_all rfl Tx.b_all bt_all (da_cons (de_of (df_lc (own := [("card", 3)]) rfl sc_is_hand.nd (di_seq (de_v 0)) (blkOk_by (N := N_is_hand) (sc := defScope s_is_hand) (by decide +kernel)) ⟨fun _ _ _ _ _ => (tv_name 3 sc_is_hand.nd), fun _ _ _ _ _ => ts_nil, fun _ _ _ _ _ => (de_c c_is_card mono_is_card hr (by omega) (fun h => by cases h) rfl tk0 (da_cons (de_v 3) da_nil))⟩)) da_nil))))))) (ss_one (st_ret de_bl)) ss_nil)
    (ss_one (st_ret (de_callB (cr_all rfl) cd_all rfl Tx.b_all bt_all (da_cons (de_of (df_lc (own := [("one", 1), ("other", 2)]) rfl sc_is_hand.nd (di_zip Tx.b_zip (da_cons (de_v 0) (da_cons (de_slice (de_v 0) (do_some de_int) do_none) da_nil))) (blkOk_by (N := N_is_hand) (sc := defScope s_is_hand) (by decide +kernel)) ⟨fun _ _ _ _ _ => (tv_tup rfl (tvs_cons (tv_name 1 sc_is_hand.nd) (tvs_cons (tv_name 2 sc_is_hand.nd) tvs_nil))), fun _ _ _ _ _ => ts_nil, fun _ _ _ _ _ => (de_cmp (op_ltAll (room_u0 hr)) opd_lt (de_v 1) (de_v 2) rfl)⟩)) da_nil)))))) pu_is_hand
abbrev s_are_apart : Stmt := topS 13
abbrev N_are_apart : List Str := ["hands", "held", "hand", "card"]
theorem sc_are_apart : FnScope N_are_apart ["hands"] (defScope s_are_apart) := ⟨rfl, rfl, rfl, by decide +kernel, rfl, by decide +kernel, by decide +kernel⟩
theorem k_are_apart {P : Program} {w : World} {K : PySem.W.Frag} {mg : Str → Option Value} {base : Heap} (F : Has K mg "are_apart" s_are_apart ["hands"]) (Tx : Txt K mg) (Er : Errs K mg "CardError" ["NoCard", "NoDeal"])  : Can false P w K mg base 1 "are_apart" ["hands"] (spP K T_are_apart) :=
  can_p F sc_are_apart len_are_apart (fun f cdv A outer s H E hr hgd => by
    exact (ss_cons (st_ownK 1 sc_are_apart.nd dk_new)
    (ss_cons (st_for (vs := [2]) psW rfl (di_seq (de_v 0)) (tv_name 2 sc_are_apart.nd) (ss_one (st_expr (de_upd 1 (de_ofK (dk_dc (own := [("card", 3)]) rfl sc_are_apart.nd (di_seq (de_v 2)) (blkOk_by (N := N_are_apart) (sc := defScope s_are_apart) (by decide +kernel)) ⟨fun _ _ _ _ _ => (tv_name 3 sc_are_apart.nd), fun _ _ _ _ _ => ts_nil, fun _ _ _ _ _ => de_bl⟩ ⟨fun _ _ _ _ _ => (tv_name 3 sc_are_apart.nd), fun _ _ _ _ _ => ts_nil, fun _ _ _ _ _ => (de_v 3)⟩))))))
    (ss_one (st_ret (de_cmp (op_eqA (room_u64 hr)) opd_eqA (de_lenN 1 Tx.b_len) (de_callB (cr_sumA rfl) cd_sumA rfl Tx.b_sum bt_sum (da_cons (de_of (df_lc (own := [("hand", 2)]) rfl sc_are_apart.nd (di_seq (de_v 0)) (blkOk_by (N := N_are_apart) (sc := defScope s_are_apart) (by decide +kernel)) ⟨fun _ _ _ _ _ => (tv_name 2 sc_are_apart.nd), fun _ _ _ _ _ => ts_nil, fun _ _ _ _ _ => (de_lenN 2 Tx.b_len)⟩)) da_nil)) rfl)))))) pu_are_apart
abbrev s_is_deal : Stmt := topS 14
abbrev N_is_deal : List Str := ["thing", "hand"]
theorem sc_is_deal : FnScope N_is_deal ["thing"] (defScope s_is_deal) := ⟨rfl, rfl, rfl, by decide +kernel, rfl, by decide +kernel, by decide +kernel⟩
theorem k_is_deal {P : Program} {w : World} {K : PySem.W.Frag} {mg : Str → Option Value} {base : Heap} (F : Has K mg "is_deal" s_is_deal ["thing"]) (Tx : Txt K mg) (Er : Errs K mg "CardError" ["NoCard", "NoDeal"]) (c_are_apart : Can false P w K mg base 1 "are_apart" ["hands"] (spP K T_are_apart)) (c_is_hand : Can false P w K mg base 4 "is_hand" ["thing"] (spP K T_is_hand)) : Can false P w K mg base 5 "is_deal" ["thing"] (spP K T_is_deal) :=
  can_p F sc_is_deal len_is_deal (fun f cdv A outer s H E hr hgd => by
    exact (ss_cons (st_if (dt_w (dw_or (dt_not (dt_tru (de_callB call_isiAll cd_isi rfl Tx.b_isinstance bt_isinstance (da_cons (de_v 0) (da_cons (de_bltn rfl Tx.b_tuple bt_tuple (v := .ty "tuple") rfl) da_nil))))) (dw_or1 (dt_not (dt_chain op_le opd_cmp op_le opd_cmp de_int (de_lenN 0 Tx.b_len) (de_gi Tx.g_MOST_PLAYERS)))))) (ss_one (st_ret de_bl)) ss_nil)
    (ss_one (st_ret (de_and (de_callB (cr_all rfl) cd_all rfl Tx.b_all bt_all (da_cons (de_of (df_lc (own := [("hand", 1)]) rfl sc_is_deal.nd (di_seq (de_v 0)) (blkOk_by (N := N_is_deal) (sc := defScope s_is_deal) (by decide +kernel)) ⟨fun _ _ _ _ _ => (tv_name 1 sc_is_deal.nd), fun _ _ _ _ _ => ts_nil, fun _ _ _ _ _ => (de_c c_is_hand mono_is_hand hr (by omega) (fun h => by cases h) rfl tk0 (da_cons (de_v 1) da_nil))⟩)) da_nil)) (de_one (de_c c_are_apart mono_are_apart hr (by omega) (fun h => by cases h) rfl tkW (da_cons (de_v 0) da_nil)))))))) pu_is_deal
abbrev s_check_deal : Stmt := topS 15
abbrev N_check_deal : List Str := ["deal"]
theorem sc_check_deal : FnScope N_check_deal ["deal"] (defScope s_check_deal) := ⟨rfl, rfl, rfl, by decide +kernel, rfl, by decide +kernel, by decide +kernel⟩
theorem k_check_deal {P : Program} {w : World} {K : PySem.W.Frag} {mg : Str → Option Value} {base : Heap} (F : Has K mg "check_deal" s_check_deal ["deal"]) (Tx : Txt K mg) (Er : Errs K mg "CardError" ["NoCard", "NoDeal"]) (c_is_deal : Can false P w K mg base 5 "is_deal" ["thing"] (spP K T_is_deal)) : Can false P w K mg base 6 "check_deal" ["deal"] (spP K T_check_deal) :=
  can_p F sc_check_deal len_check_deal (fun f cdv A outer s H E hr hgd => by
    exact (ss_one (st_if (dt_not (dt_tru (de_c c_is_deal mono_is_deal hr (by omega) (fun h => by cases h) rfl tkW (da_cons (de_v 0) da_nil)))) (ss_one (st_raise Er (by decide) tkW rfl)) ss_nil))) pu_check_deal
abbrev s_raw_holder : Stmt := topS 16
abbrev N_raw_holder : List Str := ["deal", "card", "player", "hand"]
theorem sc_raw_holder : FnScope N_raw_holder ["deal", "card"] (defScope s_raw_holder) := ⟨rfl, rfl, rfl, by decide +kernel, rfl, by decide +kernel, by decide +kernel⟩
theorem k_raw_holder {P : Program} {w : World} {K : PySem.W.Frag} {mg : Str → Option Value} {base : Heap} (F : Has K mg "raw_holder" s_raw_holder ["deal", "card"]) (Tx : Txt K mg) (Er : Errs K mg "CardError" ["NoCard", "NoDeal"])  : Can false P w K mg base 1 "raw_holder" ["deal", "card"] (spP K T_raw_holder) :=
  can_p F sc_raw_holder len_raw_holder (fun f cdv A outer s H E hr hgd => by
    exact (ss_cons (st_for (vs := [2, 3]) psW rfl (di_enumA Tx.b_enumerate (da_cons (de_v 0) da_nil)) (tv_tup rfl (tvs_cons (tv_name 2 sc_raw_holder.nd) (tvs_cons (tv_name 3 sc_raw_holder.nd) tvs_nil))) (ss_one (st_if (dt_inK 3 (room_u hr) (de_v 1)) (ss_one (st_ret (de_v 2))) ss_nil)))
    (ss_one (st_ret de_non)))) pu_raw_holder
abbrev s_holder : Stmt := topS 17
abbrev N_holder : List Str := ["deal", "card"]
theorem sc_holder : FnScope N_holder ["deal", "card"] (defScope s_holder) := ⟨rfl, rfl, rfl, by decide +kernel, rfl, by decide +kernel, by decide +kernel⟩
theorem k_holder {P : Program} {w : World} {K : PySem.W.Frag} {mg : Str → Option Value} {base : Heap} (F : Has K mg "holder" s_holder ["deal", "card"]) (Tx : Txt K mg) (Er : Errs K mg "CardError" ["NoCard", "NoDeal"]) (c_check_deal : Can false P w K mg base 6 "check_deal" ["deal"] (spP K T_check_deal)) (c_raw_holder : Can false P w K mg base 1 "raw_holder" ["deal", "card"] (spP K T_raw_holder)) (c_is_card : Can false P w K mg base 3 "is_card" ["thing"] (spP K T_is_card)) : Can false P w K mg base 7 "holder" ["deal", "card"] (spP K T_holder) :=
  can_p F sc_holder len_holder (fun f cdv A outer s H E hr hgd => by
    exact (ss_cons (st_expr (de_c c_check_deal mono_check_deal hr (by omega) (fun h => by cases h) rfl tkW (da_cons (de_v 0) da_nil)))
    (ss_cons (st_if (dt_not (dt_tru (de_c c_is_card mono_is_card hr (by omega) (fun h => by cases h) rfl tkW (da_cons (de_v 1) da_nil)))) (ss_one (st_raise Er (by decide) tkW rfl)) ss_nil)
    (ss_one (st_ret (de_c c_raw_holder mono_raw_holder hr (by omega) (fun h => by cases h) rfl tkW (da_cons (de_v 0) (da_cons (de_v 1) da_nil)))))))) pu_holder
abbrev s_swapped : Stmt := topS 18
abbrev N_swapped : List Str := ["deal", "one", "other", "card", "turned", "hand"]
theorem sc_swapped : FnScope N_swapped ["deal", "one", "other"] (defScope s_swapped) := ⟨rfl, rfl, rfl, by decide +kernel, rfl, by decide +kernel, by decide +kernel⟩
theorem k_swapped {P : Program} {w : World} {K : PySem.W.Frag} {mg : Str → Option Value} {base : Heap} (F : Has K mg "swapped" s_swapped ["deal", "one", "other"]) (Tx : Txt K mg) (Er : Errs K mg "CardError" ["NoCard", "NoDeal"]) (c_check_deal : Can false P w K mg base 6 "check_deal" ["deal"] (spP K T_check_deal)) (c_is_card : Can false P w K mg base 3 "is_card" ["thing"] (spP K T_is_card)) (c_raw_holder : Can false P w K mg base 1 "raw_holder" ["deal", "card"] (spP K T_raw_holder)) : Can false P w K mg base 7 "swapped" ["deal", "one", "other"] (spP K T_swapped) :=
  can_p F sc_swapped len_swapped (fun f cdv A outer s H E hr hgd => by
    exact (ss_cons (st_expr (de_c c_check_deal mono_check_deal hr (by omega) (fun h => by cases h) rfl tkW (da_cons (de_v 0) da_nil)))
    (ss_cons (st_for (vs := [3]) psW rfl (di_seq (de_tup (da_cons (de_v 1) (da_cons (de_v 2) da_nil)))) (tv_name 3 sc_swapped.nd) (ss_one (st_if (dt_w (dw_or (dt_not (dt_tru (de_c c_is_card mono_is_card hr (by omega) (fun h => by cases h) rfl tkW (da_cons (de_v 3) da_nil)))) (dw_or1 (dt_cmp op_isAll opd_is (de_c c_raw_holder mono_raw_holder hr (by omega) (fun h => by cases h) rfl tkW (da_cons (de_v 0) (da_cons (de_v 3) da_nil))) de_non rfl)))) (ss_one (st_raise Er (by decide) tkW rfl)) ss_nil)))
    (ss_cons (st_set 4 sc_swapped.nd (de_ofK (dk_disp (.cons (de_v 1) (de_v 2) (.cons (de_v 2) (de_v 1) .nil)) (by decide) (by decide))))
    (ss_one (st_ret (de_callTy call_tuple_of cd_tuple rfl Tx.b_tuple bt_tuple (da_cons (de_of (df_lc (own := [("hand", 5)]) rfl sc_swapped.nd (di_seq (de_v 0)) (blkOk_by (N := N_swapped) (sc := defScope s_swapped) (by decide +kernel)) ⟨fun _ _ _ _ _ => (tv_name 5 sc_swapped.nd), fun _ _ _ _ _ => ts_nil, fun _ _ _ _ _ => (de_callTy call_tuple_of cd_tuple rfl Tx.b_tuple bt_tuple (da_cons (de_of (df_callB cr_sortedA cf_sortedA rfl Tx.b_sorted bt_sorted (da_cons (de_of (df_lc (own := [("card", 3)]) rfl sc_swapped.nd (di_seq (de_v 5)) (by refine blkOk_relabel (N := N_swapped) (blkOk_by ?_); decide +kernel) ⟨fun _ _ _ _ _ => (tv_name 3 sc_swapped.nd), fun _ _ _ _ _ => ts_nil, fun _ _ _ _ _ => (de_getN 4 (room_u hr) (de_v 3) (de_v 3))⟩)) da_nil))) da_nil))⟩)) da_nil)))))))) pu_swapped
abbrev s__law_bag : Stmt := topS 20
abbrev N__law_bag : List Str := ["script", "cells", "cell"]
theorem sc__law_bag : FnScope N__law_bag ["script"] (defScope s__law_bag) := ⟨rfl, rfl, rfl, by decide +kernel, rfl, by decide +kernel, by decide +kernel⟩
theorem k__law_bag {P : Program} {w : World} {K : PySem.W.Frag} {mg : Str → Option Value} {base : Heap} (F : Has K mg "_law_bag" s__law_bag ["script"]) (Tx : Txt K mg) (Er : Errs K mg "CardError" ["NoCard", "NoDeal"])  (zs : List Int) : Can false P w K mg base 1 "_law_bag" ["script"] (spR K (scrRK K zs) THand) :=
  can_r F sc__law_bag (fun ds R E h => by rw [h.1]; rfl) (fun f cdv A outer s H E hr hgd => by
    exact (ss_cons (st_lcD 1 (own := [("cell", 2)]) rfl sc__law_bag.nd (di_seq (de_scr 0 63)) (blkOk_by (N := N__law_bag) (sc := defScope s__law_bag) (by decide +kernel)) ⟨fun _ _ _ _ _ => (tv_name 2 sc__law_bag.nd), fun _ _ _ _ _ => ts_nil, fun _ _ _ _ _ => (de_callB call_abs cd_abs rfl Tx.b_abs bt_abs (da_cons (de_callTy call_int1 cd_int rfl Tx.b_int bt_int (da_cons (de_v 2) da_nil)) da_nil))⟩)
    (ss_one (st_ret (de_lst (da_cons (de_v 1) (da_cons de_int (da_cons de_int (da_cons (de_bin op_addAll opd_add de_int (de_bin op_mulAll opd_mul de_int (de_lenN 1 Tx.b_len))) (da_cons de_int da_nil)))))))))) (pu__law_hand zs)
abbrev s__law_pick : Stmt := topS 21
abbrev N__law_pick : List Str := ["bag", "many", "cell", "digit", "number"]
theorem sc__law_pick : FnScope N__law_pick ["bag", "many"] (defScope s__law_pick) := ⟨rfl, rfl, rfl, by decide +kernel, rfl, by decide +kernel, by decide +kernel⟩
theorem k__law_pick {P : Program} {w : World} {K : PySem.W.Frag} {mg : Str → Option Value} {base : Heap} (F : Has K mg "_law_pick" s__law_pick ["bag", "many"]) (Tx : Txt K mg) (Er : Errs K mg "CardError" ["NoCard", "NoDeal"])  : Can false P w K mg base 1 "_law_pick" ["bag", "many"] (spR K (RKh K) T__law_draw) :=
  can_h F sc__law_pick len__law_draw (fun f cdv A outer s H E hr hgd => by
    exact (ss_cons (st_if (dt_w (dw_and (dt_cmp (op_eqA (room_u64 hr)) opd_eqA (de_ixK 0 (room_u hr) de_int) de_int rfl) (dw_and1 (dt_cmp (op_ltAll (room_u0 hr)) opd_lt (de_ixK 0 (room_u hr) de_int) (de_callB call_lenAll cd_len rfl Tx.b_len bt_len (da_cons (de_ixK 0 (room_u hr) de_int) da_nil)) rfl)))) (ss_cons (st_set 2 sc__law_pick.nd (de_ixG (room_u hr) (de_ixK 0 (room_u hr) de_int) (de_ixK 0 (room_u hr) de_int)))
    (ss_cons (st_store 0 de_int (de_bin op_addAll opd_add (de_ixK 0 (room_u hr) de_int) de_int))
    (ss_cons (st_store 0 de_int (de_bin op_mod opd_mod (de_callTy call_int1 cd_int rfl Tx.b_int bt_int (da_cons (de_bin op_addAll opd_add (de_bin op_addAll opd_add (de_bin op_mulAll opd_mul (de_ixK 0 (room_u hr) de_int) de_int) (de_bin op_mulAll opd_mul (de_v 2) de_int)) de_int) da_nil)) de_int))
    (ss_one (st_if (dt_cmp op_ge opd_cmp (de_v 2) (de_bin op_pow opd_pow de_int de_int) rfl) (ss_one (st_store 0 de_int (de_v 2))) ss_nil))))) ss_nil)
    (ss_cons (st_if (dt_cmp op_gt opd_cmp (de_ixK 0 (room_u hr) de_int) de_int rfl) (ss_cons (st_set 3 sc__law_pick.nd (de_bin op_mod opd_mod (de_callTy call_int1 cd_int rfl Tx.b_int bt_int (da_cons (de_ixK 0 (room_u hr) de_int) da_nil)) (de_v 1)))
    (ss_cons (st_store 0 de_int (de_bin op_divAll opd_div (de_ixK 0 (room_u hr) de_int) (de_v 1)))
    (ss_one (st_ret (de_v 3))))) ss_nil)
    (ss_cons (st_store 0 de_int (de_bin op_addAll opd_add (de_ixK 0 (room_u hr) de_int) de_int))
    (ss_cons (st_set 4 sc__law_pick.nd (de_bin op_mod opd_mod (de_callTy call_int1 cd_int rfl Tx.b_int bt_int (da_cons (de_bin op_mulAll opd_mul (de_callTy call_int1 cd_int rfl Tx.b_int bt_int (da_cons (de_bin op_addAll opd_add (de_ixK 0 (room_u hr) de_int) (de_bin op_mulAll opd_mul de_int (de_ixK 0 (room_u hr) de_int))) da_nil)) de_int) da_nil)) de_int))
    (ss_cons (st_set 4 sc__law_pick.nd (de_bin op_mod opd_mod (de_callTy call_int1 cd_int rfl Tx.b_int bt_int (da_cons (de_bin op_mulAll opd_mul (de_v 4) (de_bin op_addAll opd_add (de_bin op_divAll opd_div (de_v 4) de_int) de_int)) da_nil)) de_int))
    (ss_cons (st_set 4 sc__law_pick.nd (de_bin op_mod opd_mod (de_callTy call_int1 cd_int rfl Tx.b_int bt_int (da_cons (de_bin op_mulAll opd_mul (de_v 4) (de_bin op_addAll opd_add (de_bin op_divAll opd_div (de_v 4) de_int) de_int)) da_nil)) de_int))
    (ss_one (st_ret (de_bin op_mod opd_mod (de_callTy call_int1 cd_int rfl Tx.b_int bt_int (da_cons (de_bin op_divAll opd_div (de_v 4) de_int) da_nil)) (de_v 1))))))))))) pu__law_draw
abbrev s__law_some : Stmt := topS 22
abbrev N__law_some : List Str := ["bag", "things"]
theorem sc__law_some : FnScope N__law_some ["bag", "things"] (defScope s__law_some) := ⟨rfl, rfl, rfl, by decide +kernel, rfl, by decide +kernel, by decide +kernel⟩
theorem k__law_some {P : Program} {w : World} {K : PySem.W.Frag} {mg : Str → Option Value} {base : Heap} (F : Has K mg "_law_some" s__law_some ["bag", "things"]) (Tx : Txt K mg) (Er : Errs K mg "CardError" ["NoCard", "NoDeal"]) (c__law_pick : Can false P w K mg base 1 "_law_pick" ["bag", "many"] (spR K (RKh K) T__law_draw)) : Can false P w K mg base 2 "_law_some" ["bag", "things"] (spR K (RKh K) T__law_some) :=
  can_r F sc__law_some len__law_some (fun f cdv A outer s H E hr hgd => by
    exact (ss_one (st_ret (de_ixK 1 (room_u hr) (de_cR 0 c__law_pick mono__law_draw hr (by omega) (fun h => by cases h) rfl tkW (da_cons (de_lenN 1 Tx.b_len) da_nil)))))) pu__law_some
abbrev s__law_mixed : Stmt := topS 23
abbrev N__law_mixed : List Str := ["bag", "things", "pool", "found"]
theorem sc__law_mixed : FnScope N__law_mixed ["bag", "things"] (defScope s__law_mixed) := ⟨rfl, rfl, rfl, by decide +kernel, rfl, by decide +kernel, by decide +kernel⟩
theorem k__law_mixed {P : Program} {w : World} {K : PySem.W.Frag} {mg : Str → Option Value} {base : Heap} (F : Has K mg "_law_mixed" s__law_mixed ["bag", "things"]) (Tx : Txt K mg) (Er : Errs K mg "CardError" ["NoCard", "NoDeal"]) (c__law_pick : Can false P w K mg base 1 "_law_pick" ["bag", "many"] (spR K (RKh K) T__law_draw)) : Can false P w K mg base 2 "_law_mixed" ["bag", "things"] (spR K (RKh K) T__law_mixed) :=
  can_r F sc__law_mixed len__law_mixed (fun f cdv A outer s H E hr hgd => by
    exact (ss_cons (st_parF2 2 3 rfl sc__law_mixed.nd (daf_f (df_callTy call_list_of cf_list rfl Tx.b_list bt_list (da_cons (de_v 1) da_nil)) (daf_f (df_lst da_nil) daf_nil)))
    (ss_cons (st_while psW (dt_cmp op_gt opd_cmp (de_lenN 2 Tx.b_len) de_int rfl) (ss_one (st_expr (de_append 3 (de_popAt 2 (de_cR 0 c__law_pick mono__law_draw hr (by omega) (fun h => by cases h) rfl tkW (da_cons (de_lenN 2 Tx.b_len) da_nil)))))))
    (ss_one (st_ret (de_v 3)))))) pu__law_mixed
abbrev s__law_deal : Stmt := topS 24
abbrev N__law_deal : List Str := ["bag", "rows", "pool", "most", "spot", "many"]
theorem sc__law_deal : FnScope N__law_deal ["bag"] (defScope s__law_deal) := ⟨rfl, rfl, rfl, by decide +kernel, rfl, by decide +kernel, by decide +kernel⟩
theorem k__law_deal {P : Program} {w : World} {K : PySem.W.Frag} {mg : Str → Option Value} {base : Heap} (F : Has K mg "_law_deal" s__law_deal ["bag"]) (Tx : Txt K mg) (Er : Errs K mg "CardError" ["NoCard", "NoDeal"]) (c__law_some : Can false P w K mg base 2 "_law_some" ["bag", "things"] (spR K (RKh K) T__law_some)) (c__law_mixed : Can false P w K mg base 2 "_law_mixed" ["bag", "things"] (spR K (RKh K) T__law_mixed)) (c__law_pick : Can false P w K mg base 1 "_law_pick" ["bag", "many"] (spR K (RKh K) T__law_draw)) : Can false P w K mg base 3 "_law_deal" ["bag"] (spR K (RKh K) T__law_deal) :=
  can_r F sc__law_deal len__law_deal (fun f cdv A outer s H E hr hgd => by
    exact (ss_cons (st_parF2 1 2 rfl sc__law_deal.nd (daf_f (df_lst da_nil) (daf_d (de_cR 0 c__law_mixed mono__law_mixed hr (by omega) (fun h => by cases h) rfl tkW (da_cons (de_of (df_listRg Tx.b_list (dr_1 Tx.b_range de_int))) da_nil)) daf_nil)))
    (ss_cons (st_set 3 sc__law_deal.nd (de_cR 0 c__law_some mono__law_some hr (by omega) (fun h => by cases h) rfl tkW (da_cons (de_lst (da_cons de_int (da_cons de_int (da_cons de_int (da_cons de_int da_nil))))) da_nil)))
    (ss_cons (st_for (vs := [4]) psW rfl (di_rng1 Tx.b_range (de_bin op_addAll opd_add de_int (de_cR 0 c__law_pick mono__law_draw hr (by omega) (fun h => by cases h) rfl tkW (da_cons de_int da_nil)))) (tv_name 4 sc__law_deal.nd) (ss_cons (st_set 5 sc__law_deal.nd (de_cR 0 c__law_pick mono__law_draw hr (by omega) (fun h => by cases h) rfl tkW (da_cons (de_v 3) da_nil)))
    (ss_cons (st_expr (de_append 1 (de_callTy call_tuple_of cd_tuple rfl Tx.b_tuple bt_tuple (da_cons (de_of (df_callB cr_sortedA cf_sortedA rfl Tx.b_sorted bt_sorted (da_cons (de_slice (de_v 2) do_none (do_some (de_v 5))) da_nil))) da_nil))))
    (ss_one (st_set 2 sc__law_deal.nd (de_slice (de_v 2) (do_some (de_v 5)) do_none))))))
    (ss_cons (st_if (dt_cmp (op_eqA (room_u64 hr)) opd_eqA (de_cR 0 c__law_pick mono__law_draw hr (by omega) (fun h => by cases h) rfl tkW (da_cons de_int da_nil)) de_int rfl) (ss_one (st_store 1 (de_neg de_int) (de_callTy call_tuple_of cd_tuple rfl Tx.b_tuple bt_tuple (da_cons (de_of (df_callB cr_sortedA cf_sortedA rfl Tx.b_sorted bt_sorted (da_cons (de_bin op_addAll opd_add (de_of (df_callTy call_list_of cf_list rfl Tx.b_list bt_list (da_cons (de_ixK 1 (room_u hr) (de_neg de_int)) da_nil))) (de_v 2)) da_nil))) da_nil)))) ss_nil)
    (ss_one (st_ret (de_callTy call_tuple_of cd_tuple rfl Tx.b_tuple bt_tuple (da_cons (de_v 1) da_nil))))))))) pu__law_deal
abbrev s__law_holder : Stmt := topS 25
abbrev N__law_holder : List Str := ["rows", "card", "spot", "row"]
theorem sc__law_holder : FnScope N__law_holder ["rows", "card"] (defScope s__law_holder) := ⟨rfl, rfl, rfl, by decide +kernel, rfl, by decide +kernel, by decide +kernel⟩
theorem k__law_holder {P : Program} {w : World} {K : PySem.W.Frag} {mg : Str → Option Value} {base : Heap} (F : Has K mg "_law_holder" s__law_holder ["rows", "card"]) (Tx : Txt K mg) (Er : Errs K mg "CardError" ["NoCard", "NoDeal"])  : Can false P w K mg base 1 "_law_holder" ["rows", "card"] (spP K T__law_holder) :=
  can_p F sc__law_holder len__law_holder (fun f cdv A outer s H E hr hgd => by
    exact (ss_cons (st_for (vs := [2, 3]) psW rfl (di_enumA Tx.b_enumerate (da_cons (de_v 0) da_nil)) (tv_tup rfl (tvs_cons (tv_name 2 sc__law_holder.nd) (tvs_cons (tv_name 3 sc__law_holder.nd) tvs_nil))) (ss_one (st_if (dt_inK 3 (room_u hr) (de_v 1)) (ss_one (st_ret (de_v 2))) ss_nil)))
    (ss_one (st_ret de_non)))) pu__law_holder
abbrev s__law_swapped : Stmt := topS 26
abbrev N__law_swapped : List Str := ["rows", "one", "other", "found", "row", "card"]
theorem sc__law_swapped : FnScope N__law_swapped ["rows", "one", "other"] (defScope s__law_swapped) := ⟨rfl, rfl, rfl, by decide +kernel, rfl, by decide +kernel, by decide +kernel⟩
theorem k__law_swapped {P : Program} {w : World} {K : PySem.W.Frag} {mg : Str → Option Value} {base : Heap} (F : Has K mg "_law_swapped" s__law_swapped ["rows", "one", "other"]) (Tx : Txt K mg) (Er : Errs K mg "CardError" ["NoCard", "NoDeal"])  : Can false P w K mg base 1 "_law_swapped" ["rows", "one", "other"] (spP K T__law_swapped) :=
  can_p F sc__law_swapped len__law_swapped (fun f cdv A outer s H E hr hgd => by
    exact (ss_cons (st_own 3 sc__law_swapped.nd (df_lst da_nil))
    (ss_cons (st_for (vs := [4]) psW rfl (di_seq (de_v 0)) (tv_name 4 sc__law_swapped.nd) (ss_one (st_expr (de_append 3 (de_callTy call_tuple_of cd_tuple rfl Tx.b_tuple bt_tuple (da_cons (de_of (df_callB cr_sortedA cf_sortedA rfl Tx.b_sorted bt_sorted (da_cons (de_of (df_lc (own := [("card", 5)]) rfl sc__law_swapped.nd (di_seq (de_v 4)) (blkOk_by (N := N__law_swapped) (sc := defScope s__law_swapped) (by decide +kernel)) ⟨fun _ _ _ _ _ => (tv_name 5 sc__law_swapped.nd), fun _ _ _ _ _ => ts_nil, fun _ _ _ _ _ => (de_if (dt_cmp (op_eqA (room_u64 hr)) opd_eqA (de_v 5) (de_v 1) rfl) (de_v 2) (de_if (dt_cmp (op_eqA (room_u64 hr)) opd_eqA (de_v 5) (de_v 2) rfl) (de_v 1) (de_v 5)))⟩)) da_nil))) da_nil))))))
    (ss_one (st_ret (de_callTy call_tuple_of cd_tuple rfl Tx.b_tuple bt_tuple (da_cons (de_v 3) da_nil))))))) pu__law_swapped
abbrev s__law_word : Stmt := topS 27
abbrev N__law_word : List Str := ["call", "error", "flags"]
theorem sc__law_word : FnScope N__law_word ["call"] (defScope s__law_word) := ⟨rfl, rfl, rfl, by decide +kernel, rfl, by decide +kernel, by decide +kernel⟩
theorem k__law_word {P : Program} {w : World} {K : PySem.W.Frag} {mg : Str → Option Value} {base : Heap} (F : Has K mg "_law_word" s__law_word ["call"]) (Tx : Txt K mg) (Er : Errs K mg "CardError" ["NoCard", "NoDeal"])  : CanW P w K mg base "_law_word" T__law_word :=
  can_w F sc__law_word rfl (.inl rfl) (by decide) (by decide) (fun g cdv A stack => gives_B Er (errs_base Er (x := "NoCard") (by decide)) sc__law_word.nd (fun g cdv A stack s H hr x hz a D oe pn hD hz2 hf => by
    exact (ss_cons (st_set 2 sc__law_word.nd (de_lst (da_cons (de_isE Er hz (by decide) hD hz2 hf Tx.b_isinstance 1) (da_cons (de_isE Er hz (by decide) hD hz2 hf Tx.b_isinstance 1) da_nil))))
    (ss_cons (st_if (dt_w (dw_or (dt_cmp (op_neA (room_uS64 hr)) opd_neA (de_count (de_v 2) de_bl) de_int rfl) (dw_or1 (dt_not (dt_tru (de_isV Er hz hD hz2 hf Tx.b_isinstance Tx.b_ValueError 1)))))) (ss_one (st_ret de_str)) ss_nil)
    (ss_one (st_ret (de_if (dt_tru (de_ixK 2 (room_uS hr) de_int)) de_str de_str)))))) pu__law_word rfl rfl rfl (by decide) (by decide))
abbrev s__law_deep : Stmt := topS 28
abbrev N__law_deep : List Str := ["bag", "found", "step"]
theorem sc__law_deep : FnScope N__law_deep ["bag"] (defScope s__law_deep) := ⟨rfl, rfl, rfl, by decide +kernel, rfl, by decide +kernel, by decide +kernel⟩
theorem k__law_deep {P : Program} {w : World} {K : PySem.W.Frag} {mg : Str → Option Value} {base : Heap} (F : Has K mg "_law_deep" s__law_deep ["bag"]) (Tx : Txt K mg) (Er : Errs K mg "CardError" ["NoCard", "NoDeal"]) (c__law_some : Can false P w K mg base 2 "_law_some" ["bag", "things"] (spR K (RKh K) T__law_some)) (c__law_pick : Can false P w K mg base 1 "_law_pick" ["bag", "many"] (spR K (RKh K) T__law_draw)) : Can false P w K mg base 3 "_law_deep" ["bag"] (spR K (RKh K) T__law_deep) :=
  can_r F sc__law_deep len__law_deep (fun f cdv A outer s H E hr hgd => by
    exact (ss_cons (st_set 1 sc__law_deep.nd (de_cR 0 c__law_some mono__law_some hr (by omega) (fun h => by cases h) rfl tkW (da_cons (de_lst (da_cons de_non (da_cons (de_neg de_int) (da_cons de_str (da_cons de_bl da_nil))))) da_nil)))
    (ss_cons (st_for (vs := [2]) psW rfl (di_rng1 Tx.b_range (de_bin op_addAll opd_add de_int (de_cR 0 c__law_pick mono__law_draw hr (by omega) (fun h => by cases h) rfl tkW (da_cons de_int da_nil)))) (tv_name 2 sc__law_deep.nd) (ss_one (st_set 1 sc__law_deep.nd (de_ixG (room_u hr) (de_lst (da_cons (de_tup (da_cons (de_v 1) da_nil)) (da_cons (de_lst (da_cons (de_v 1) da_nil)) (da_cons (de_ofK (dk_disp (.cons de_int (de_v 1) .nil) (by decide) (by decide))) da_nil)))) (de_cR 0 c__law_pick mono__law_draw hr (by omega) (fun h => by cases h) rfl tkW (da_cons de_int da_nil))))))
    (ss_one (st_ret (de_v 1)))))) pu__law_deep
abbrev s__law_swap_word : Stmt := topS 29
abbrev N__law_swap_word : List Str := ["rows", "one", "other"]
theorem sc__law_swap_word : FnScope N__law_swap_word ["rows", "one", "other"] (defScope s__law_swap_word) := ⟨rfl, rfl, rfl, by decide +kernel, rfl, by decide +kernel, by decide +kernel⟩
theorem k__law_swap_word {P : Program} {w : World} {K : PySem.W.Frag} {mg : Str → Option Value} {base : Heap} {Tb : List (Addr × Str)} (F : Has K mg "_law_swap_word" s__law_swap_word ["rows", "one", "other"]) (Tx : Txt K mg) (Er : Errs K mg "CardError" ["NoCard", "NoDeal"]) (c__law_word : CanW P w K mg base "_law_word" T__law_word) (c_swapped : Can false P w K mg base 7 "swapped" ["deal", "one", "other"] (spP K T_swapped)) {Pt : Addr} (TO : TabOf K base mg "_law_swap_word" Pt) (lt : LamTab Tb Pt (lamQ "_law_swap_word")) : Can false P w K mg base 10 "_law_swap_word" ["rows", "one", "other"] (spQ K (RKt K Tb) T__law_swap_word) :=
  can_ql F TO sc__law_swap_word len__law_swap_word (fun f c A outer s H E tb hr hgd => by
    exact (ss_one (st_ret (de_word (k := 7) c__law_word mono__law_word tb lt.mem lt.one (hr.mono (by omega)) (by decide) hgd (lamS_by (sc := defScope s__law_swap_word) (by decide +kernel)) (fun A outer s H E f c' hr hgd => (de_c c_swapped mono_swapped hr (by omega) (fun h => by cases h) rfl tkL (da_cons (de_v 0) (da_cons (de_v 1) (da_cons (de_v 2) da_nil))))))))) pu__law_swap_word
abbrev s__law_holder_word : Stmt := topS 30
abbrev N__law_holder_word : List Str := ["rows", "card"]
theorem sc__law_holder_word : FnScope N__law_holder_word ["rows", "card"] (defScope s__law_holder_word) := ⟨rfl, rfl, rfl, by decide +kernel, rfl, by decide +kernel, by decide +kernel⟩
theorem k__law_holder_word {P : Program} {w : World} {K : PySem.W.Frag} {mg : Str → Option Value} {base : Heap} {Tb : List (Addr × Str)} (F : Has K mg "_law_holder_word" s__law_holder_word ["rows", "card"]) (Tx : Txt K mg) (Er : Errs K mg "CardError" ["NoCard", "NoDeal"]) (c__law_word : CanW P w K mg base "_law_word" T__law_word) (c_holder : Can false P w K mg base 7 "holder" ["deal", "card"] (spP K T_holder)) {Pt : Addr} (TO : TabOf K base mg "_law_holder_word" Pt) (lt : LamTab Tb Pt (lamQ "_law_holder_word")) : Can false P w K mg base 10 "_law_holder_word" ["rows", "card"] (spQ K (RKt K Tb) T__law_holder_word) :=
  can_ql F TO sc__law_holder_word len__law_holder_word (fun f c A outer s H E tb hr hgd => by
    exact (ss_one (st_ret (de_word (k := 7) c__law_word mono__law_word tb lt.mem lt.one (hr.mono (by omega)) (by decide) hgd (lamS_by (sc := defScope s__law_holder_word) (by decide +kernel)) (fun A outer s H E f c' hr hgd => (de_c c_holder mono_holder hr (by omega) (fun h => by cases h) rfl tkL (da_cons (de_v 0) (da_cons (de_v 1) da_nil)))))))) pu__law_holder_word
abbrev s__law_are_refused : Stmt := topS 31
abbrev N__law_are_refused : List Str := ["bag", "rows", "some", "none", "odd", "words", "due", "pool", "card", "free", "row"]
theorem sc__law_are_refused : FnScope N__law_are_refused ["bag", "rows"] (defScope s__law_are_refused) := ⟨rfl, rfl, rfl, by decide +kernel, rfl, by decide +kernel, by decide +kernel⟩
theorem k__law_are_refused {P : Program} {w : World} {K : PySem.W.Frag} {mg : Str → Option Value} {base : Heap} {Tb : List (Addr × Str)} (F : Has K mg "_law_are_refused" s__law_are_refused ["bag", "rows"]) (Tx : Txt K mg) (Er : Errs K mg "CardError" ["NoCard", "NoDeal"]) (c__law_some : Can false P w K mg base 2 "_law_some" ["bag", "things"] (spR K (RKh K) T__law_some)) (c__law_holder_word : Can false P w K mg base 10 "_law_holder_word" ["rows", "card"] (spQ K (RKt K Tb) T__law_holder_word)) (c__law_swap_word : Can false P w K mg base 10 "_law_swap_word" ["rows", "one", "other"] (spQ K (RKt K Tb) T__law_swap_word)) (c__law_deep : Can false P w K mg base 3 "_law_deep" ["bag"] (spR K (RKh K) T__law_deep)) : Can false P w K mg base 11 "_law_are_refused" ["bag", "rows"] (spR K (RKt K Tb) T__law_are_refused) :=
  can_r F sc__law_are_refused len__law_are_refused (fun f cdv A outer s H E hr hgd => by
    exact (ss_cons (st_set 2 sc__law_are_refused.nd (de_lst (da_cons de_non (da_cons de_int (da_cons (de_tup da_nil) (da_cons (de_bin op_repT2 opd_repT2 (de_tup (da_cons (de_tup (da_cons de_int da_nil)) da_nil)) de_int) (da_cons (de_of (df_callTy call_list_of cf_list rfl Tx.b_list bt_list (da_cons (de_v 1) da_nil))) (da_cons (de_tup (da_cons (de_tup (da_cons de_int (da_cons de_int da_nil))) da_nil)) (da_cons (de_tup (da_cons (de_tup (da_cons de_int da_nil)) da_nil)) (da_cons (de_bin op_repT2 opd_repT2 (de_tup (da_cons (de_tup da_nil) da_nil)) de_int) (da_cons (de_ofK dk_new) (da_cons (de_tup (da_cons (de_tup (da_cons de_bl da_nil)) da_nil)) (da_cons (de_tup (da_cons de_int (da_cons de_int da_nil))) (da_cons de_str da_nil))))))))))))))
    (ss_cons (st_set 3 sc__law_are_refused.nd (de_cR 0 (c__law_some.tab mono__law_some) mono__law_some hr (by omega) (fun h => by cases h) rfl tkW (da_cons (de_bin op_addAll opd_add (de_v 2) (de_lst (da_cons (de_tup (da_cons (de_tup (da_cons de_int da_nil)) (da_cons de_non da_nil))) (da_cons (de_cR 0 (c__law_deep.tab mono__law_deep) mono__law_deep hr (by omega) (fun h => by cases h) rfl tkW da_nil) da_nil)))) da_nil)))
    (ss_cons (st_set 4 sc__law_are_refused.nd (de_cR 0 (c__law_some.tab mono__law_some) mono__law_some hr (by omega) (fun h => by cases h) rfl tkW (da_cons (de_lst (da_cons de_int (da_cons (de_neg de_int) (da_cons de_non (da_cons de_bl (da_cons de_str (da_cons (de_tup (da_cons de_int da_nil)) (da_cons (de_lst (da_cons de_int da_nil)) (da_cons (de_ofK dk_new) (da_cons (de_bin op_pow opd_pow de_int de_int) (da_cons (de_cR 0 (c__law_deep.tab mono__law_deep) mono__law_deep hr (by omega) (fun h => by cases h) rfl tkW da_nil) da_nil))))))))))) da_nil)))
    (ss_cons (st_own 5 sc__law_are_refused.nd (df_lst (da_cons (de_cQ c__law_holder_word mono__law_holder_word hr (by omega) (fun h => by cases h) rfl tkW (da_cons (de_v 3) (da_cons (de_v 4) da_nil))) (da_cons (de_cQ c__law_holder_word mono__law_holder_word hr (by omega) (fun h => by cases h) rfl tkW (da_cons (de_v 1) (da_cons (de_v 4) da_nil))) (da_cons (de_cQ c__law_swap_word mono__law_swap_word hr (by omega) (fun h => by cases h) rfl tkW (da_cons (de_v 3) (da_cons (de_v 4) (da_cons (de_v 4) da_nil)))) da_nil)))))
    (ss_cons (st_expr (de_append 5 (de_cQ c__law_swap_word mono__law_swap_word hr (by omega) (fun h => by cases h) rfl tkW (da_cons (de_v 1) (da_cons (de_v 4) (da_cons (de_v 4) da_nil))))))
    (ss_cons (st_own 6 sc__law_are_refused.nd (df_lst (da_cons de_str (da_cons de_str (da_cons de_str (da_cons de_str da_nil))))))
    (ss_cons (st_set 7 sc__law_are_refused.nd (de_callB (cr_sumL rfl) cd_sumL rfl Tx.b_sum bt_sum (da_cons (de_of (df_lc (own := [("row", 10)]) rfl sc__law_are_refused.nd (di_seq (de_v 1)) (blkOk_by (N := N__law_are_refused) (sc := defScope s__law_are_refused) (by decide +kernel)) ⟨fun _ _ _ _ _ => (tv_name 10 sc__law_are_refused.nd), fun _ _ _ _ _ => ts_nil, fun _ _ _ _ _ => (de_of (df_callTy call_list_of cf_list rfl Tx.b_list bt_list (da_cons (de_v 10) da_nil)))⟩)) (da_cons (de_lst da_nil) da_nil))))
    (ss_cons (st_lcD 9 (own := [("card", 8)]) rfl sc__law_are_refused.nd (di_rng1 Tx.b_range de_int) (blkOk_by (N := N__law_are_refused) (sc := defScope s__law_are_refused) (by decide +kernel)) ⟨fun _ _ _ _ _ => (tv_name 8 sc__law_are_refused.nd), fun _ _ _ _ _ => (ts_one (dt_notInK 7 (room_u hr) (de_v 8))), fun _ _ _ _ _ => (de_v 8)⟩)
    (ss_cons (st_if (dt_cmp op_gt opd_cmp (de_lenN 7 Tx.b_len) de_int rfl) (ss_cons (st_own 5 sc__law_are_refused.nd (df_cat (de_v 5) (de_lst (da_cons (de_cQ c__law_swap_word mono__law_swap_word hr (by omega) (fun h => by cases h) rfl tkW (da_cons (de_v 1) (da_cons (de_ixK 7 (room_u hr) de_int) (da_cons (de_v 4) da_nil)))) (da_cons (de_cQ c__law_swap_word mono__law_swap_word hr (by omega) (fun h => by cases h) rfl tkW (da_cons (de_v 1) (da_cons (de_v 4) (da_cons (de_ixK 7 (room_u hr) de_int) da_nil)))) da_nil)))))
    (ss_one (st_own 6 sc__law_are_refused.nd (df_cat (de_v 6) (de_bin op_mulAll opd_mul (de_lst (da_cons de_str da_nil)) de_int))))) ss_nil)
    (ss_cons (st_if (dt_w (dw_and (dt_cmp op_gt opd_cmp (de_lenN 9 Tx.b_len) de_int rfl) (dw_and1 (dt_cmp op_gt opd_cmp (de_lenN 7 Tx.b_len) de_int rfl)))) (ss_cons (st_set 8 sc__law_are_refused.nd (de_cR 0 (c__law_some.tab mono__law_some) mono__law_some hr (by omega) (fun h => by cases h) rfl tkW (da_cons (de_v 9) da_nil)))
    (ss_cons (st_own 5 sc__law_are_refused.nd (df_cat (de_v 5) (de_lst (da_cons (de_cQ c__law_swap_word mono__law_swap_word hr (by omega) (fun h => by cases h) rfl tkW (da_cons (de_v 1) (da_cons (de_v 8) (da_cons (de_ixK 7 (room_u hr) (de_neg de_int)) da_nil)))) (da_cons (de_cQ c__law_swap_word mono__law_swap_word hr (by omega) (fun h => by cases h) rfl tkW (da_cons (de_v 1) (da_cons (de_ixK 7 (room_u hr) (de_neg de_int)) (da_cons (de_v 8) da_nil)))) da_nil)))))
    (ss_one (st_own 6 sc__law_are_refused.nd (df_cat (de_v 6) (de_bin op_mulAll opd_mul (de_lst (da_cons de_str da_nil)) de_int)))))) ss_nil)
    (ss_cons (st_if (dt_cmp op_gt opd_cmp (de_lenN 9 Tx.b_len) de_int rfl) (ss_cons (st_expr (de_append 5 (de_cQ c__law_swap_word mono__law_swap_word hr (by omega) (fun h => by cases h) rfl tkW (da_cons (de_v 1) (da_cons (de_ixK 9 (room_u hr) de_int) (da_cons (de_ixK 9 (room_u hr) de_int) da_nil))))))
    (ss_one (st_expr (de_append 6 de_str)))) ss_nil)
    (ss_one (st_ret (de_cmp (op_eqA (room_u64 hr)) opd_eqA (de_v 5) (de_v 6) rfl))))))))))))))) pu__law_are_refused
abbrev s__law_is_pair_right : Stmt := topS 32
abbrev N__law_is_pair_right : List Str := ["rows", "one", "other", "due", "before", "pool", "row", "card"]
theorem sc__law_is_pair_right : FnScope N__law_is_pair_right ["rows", "one", "other"] (defScope s__law_is_pair_right) := ⟨rfl, rfl, rfl, by decide +kernel, rfl, by decide +kernel, by decide +kernel⟩
theorem k__law_is_pair_right {P : Program} {w : World} {K : PySem.W.Frag} {mg : Str → Option Value} {base : Heap} (F : Has K mg "_law_is_pair_right" s__law_is_pair_right ["rows", "one", "other"]) (Tx : Txt K mg) (Er : Errs K mg "CardError" ["NoCard", "NoDeal"]) (c__law_swapped : Can false P w K mg base 1 "_law_swapped" ["rows", "one", "other"] (spP K T__law_swapped)) (c_swapped : Can false P w K mg base 7 "swapped" ["deal", "one", "other"] (spP K T_swapped)) (c_holder : Can false P w K mg base 7 "holder" ["deal", "card"] (spP K T_holder)) : Can true P w K mg base 8 "_law_is_pair_right" ["rows", "one", "other"] (spP K T__law_is_pair_right) :=
  can_p F sc__law_is_pair_right len__law_is_pair_right (fun f cdv A outer s H E hr hgd => by
    exact (ss_cons (st_parN (is := [3, 4]) rfl (daf_d (de_c c__law_swapped mono__law_swapped hr (by omega) (fun h => by cases h) rfl tkW (da_cons (de_v 0) (da_cons (de_v 1) (da_cons (de_v 2) da_nil)))) (daf_d (de_callB (call_reprD (hgd rfl) (room_u hr)) cd_repr rfl Tx.b_repr bt_repr (da_cons (de_v 0) da_nil)) daf_nil)) (pn_cons 3 sc__law_is_pair_right.nd (pn_cons 4 sc__law_is_pair_right.nd pn_nil)))
    (ss_cons (st_if (dt_w (dw_or (dt_cmp (op_neA (room_u64 hr)) opd_neA (de_c c_swapped mono_swapped hr (by omega) (fun h => by cases h) rfl tkW (da_cons (de_v 0) (da_cons (de_v 1) (da_cons (de_v 2) da_nil)))) (de_v 3) rfl) (dw_or (dt_cmp (op_neA (room_u64 hr)) opd_neA (de_c c_swapped mono_swapped hr (by omega) (fun h => by cases h) rfl tkW (da_cons (de_v 0) (da_cons (de_v 2) (da_cons (de_v 1) da_nil)))) (de_v 3) rfl) (dw_or1 (dt_cmp (op_neA (room_u64 hr)) opd_neA (de_callB (call_reprD (hgd rfl) (room_u hr)) cd_repr rfl Tx.b_repr bt_repr (da_cons (de_v 0) da_nil)) (de_v 4) rfl))))) (ss_one (st_ret de_bl)) ss_nil)
    (ss_cons (st_if (dt_w (dw_or (dt_cmp (op_neA (room_u64 hr)) opd_neA (de_c c_swapped mono_swapped hr (by omega) (fun h => by cases h) rfl tkW (da_cons (de_v 3) (da_cons (de_v 1) (da_cons (de_v 2) da_nil)))) (de_v 0) rfl) (dw_or1 (dt_cmp (op_neA (room_u64 hr)) opd_neA (de_of (df_lc (own := [("row", 6)]) rfl sc__law_is_pair_right.nd (di_seq (de_v 3)) (blkOk_by (N := N__law_is_pair_right) (sc := defScope s__law_is_pair_right) (by decide +kernel)) ⟨fun _ _ _ _ _ => (tv_name 6 sc__law_is_pair_right.nd), fun _ _ _ _ _ => ts_nil, fun _ _ _ _ _ => (de_lenN 6 Tx.b_len)⟩)) (de_of (df_lc (own := [("row", 6)]) rfl sc__law_is_pair_right.nd (di_seq (de_v 0)) (blkOk_by (N := N__law_is_pair_right) (sc := defScope s__law_is_pair_right) (by decide +kernel)) ⟨fun _ _ _ _ _ => (tv_name 6 sc__law_is_pair_right.nd), fun _ _ _ _ _ => ts_nil, fun _ _ _ _ _ => (de_lenN 6 Tx.b_len)⟩)) rfl)))) (ss_one (st_ret de_bl)) ss_nil)
    (ss_cons (st_if (dt_cmp (op_neA (room_u64 hr)) opd_neA (de_cmp (op_eqA (room_u64 hr)) opd_eqA (de_v 3) (de_v 0) rfl) (de_cmp (op_eqA (room_u64 hr)) opd_eqA (de_c c_holder mono_holder hr (by omega) (fun h => by cases h) rfl tkW (da_cons (de_v 0) (da_cons (de_v 1) da_nil))) (de_c c_holder mono_holder hr (by omega) (fun h => by cases h) rfl tkW (da_cons (de_v 0) (da_cons (de_v 2) da_nil))) rfl) rfl) (ss_one (st_ret de_bl)) ss_nil)
    (ss_cons (st_if (dt_w (dw_or (dt_cmp (op_neA (room_u64 hr)) opd_neA (de_c c_holder mono_holder hr (by omega) (fun h => by cases h) rfl tkW (da_cons (de_v 3) (da_cons (de_v 1) da_nil))) (de_c c_holder mono_holder hr (by omega) (fun h => by cases h) rfl tkW (da_cons (de_v 0) (da_cons (de_v 2) da_nil))) rfl) (dw_or1 (dt_cmp (op_neA (room_u64 hr)) opd_neA (de_c c_holder mono_holder hr (by omega) (fun h => by cases h) rfl tkW (da_cons (de_v 3) (da_cons (de_v 2) da_nil))) (de_c c_holder mono_holder hr (by omega) (fun h => by cases h) rfl tkW (da_cons (de_v 0) (da_cons (de_v 1) da_nil))) rfl)))) (ss_one (st_ret de_bl)) ss_nil)
    (ss_cons (st_set 5 sc__law_is_pair_right.nd (de_callB (cr_sumL rfl) cd_sumL rfl Tx.b_sum bt_sum (da_cons (de_of (df_lc (own := [("row", 6)]) rfl sc__law_is_pair_right.nd (di_seq (de_v 0)) (blkOk_by (N := N__law_is_pair_right) (sc := defScope s__law_is_pair_right) (by decide +kernel)) ⟨fun _ _ _ _ _ => (tv_name 6 sc__law_is_pair_right.nd), fun _ _ _ _ _ => ts_nil, fun _ _ _ _ _ => (de_of (df_callTy call_list_of cf_list rfl Tx.b_list bt_list (da_cons (de_v 6) da_nil)))⟩)) (da_cons (de_lst da_nil) da_nil))))
    (ss_one (st_ret (de_callB (cr_all rfl) cd_all rfl Tx.b_all bt_all (da_cons (de_of (df_lc (own := [("card", 7)]) rfl sc__law_is_pair_right.nd (di_seq (de_v 5)) (blkOk_by (N := N__law_is_pair_right) (sc := defScope s__law_is_pair_right) (by decide +kernel)) ⟨fun _ _ _ _ _ => (tv_name 7 sc__law_is_pair_right.nd), fun _ _ _ _ _ => (ts_one (dt_cmp (op_notInK (room_u hr)) opd_notInK (de_v 7) (de_tup (da_cons (de_v 1) (da_cons (de_v 2) da_nil))) rfl)), fun _ _ _ _ _ => (de_cmp (op_eqA (room_u64 hr)) opd_eqA (de_c c_holder mono_holder hr (by omega) (fun h => by cases h) rfl tk0 (da_cons (de_v 3) (da_cons (de_v 7) da_nil))) (de_c c_holder mono_holder hr (by omega) (fun h => by cases h) rfl tk0 (da_cons (de_v 0) (da_cons (de_v 7) da_nil))) rfl)⟩)) da_nil))))))))))) pu__law_is_pair_right
abbrev s__law_is_right : Stmt := topS 33
abbrev N__law_is_right : List Str := ["bag", "rows", "pool", "step", "row", "card"]
theorem sc__law_is_right : FnScope N__law_is_right ["bag", "rows"] (defScope s__law_is_right) := ⟨rfl, rfl, rfl, by decide +kernel, rfl, by decide +kernel, by decide +kernel⟩
theorem k__law_is_right {P : Program} {w : World} {K : PySem.W.Frag} {mg : Str → Option Value} {base : Heap} (F : Has K mg "_law_is_right" s__law_is_right ["bag", "rows"]) (Tx : Txt K mg) (Er : Errs K mg "CardError" ["NoCard", "NoDeal"]) (c__law_is_pair_right : Can true P w K mg base 8 "_law_is_pair_right" ["rows", "one", "other"] (spP K T__law_is_pair_right)) (c__law_some : Can false P w K mg base 2 "_law_some" ["bag", "things"] (spR K (RKh K) T__law_some)) (c_holder : Can false P w K mg base 7 "holder" ["deal", "card"] (spP K T_holder)) (c__law_holder : Can false P w K mg base 1 "_law_holder" ["rows", "card"] (spP K T__law_holder)) : Can true P w K mg base 9 "_law_is_right" ["bag", "rows"] (spR K (RKh K) T__law_is_right) :=
  can_r F sc__law_is_right len__law_is_right (fun f cdv A outer s H E hr hgd => by
    exact (ss_cons (st_if (dt_not (dt_tru (de_callB (cr_all rfl) cd_all rfl Tx.b_all bt_all (da_cons (de_of (df_lc (own := [("card", 5)]) rfl sc__law_is_right.nd (di_rng1 Tx.b_range de_int) (blkOk_by (N := N__law_is_right) (sc := defScope s__law_is_right) (by decide +kernel)) ⟨fun _ _ _ _ _ => (tv_name 5 sc__law_is_right.nd), fun _ _ _ _ _ => ts_nil, fun _ _ _ _ _ => (de_cmp (op_eqA (room_u64 hr)) opd_eqA (de_callB (call_reprD (hgd rfl) (room_u hr)) cd_repr rfl Tx.b_repr bt_repr (da_cons (de_c c_holder mono_holder hr (by omega) (fun h => by cases h) rfl tk0 (da_cons (de_v 1) (da_cons (de_v 5) da_nil))) da_nil)) (de_callB (call_reprD (hgd rfl) (room_u hr)) cd_repr rfl Tx.b_repr bt_repr (da_cons (de_c c__law_holder mono__law_holder hr (by omega) (fun h => by cases h) rfl tk0 (da_cons (de_v 1) (da_cons (de_v 5) da_nil))) da_nil)) rfl)⟩)) da_nil)))) (ss_one (st_ret de_bl)) ss_nil)
    (ss_cons (st_set 2 sc__law_is_right.nd (de_callB (cr_sumL rfl) cd_sumL rfl Tx.b_sum bt_sum (da_cons (de_of (df_lc (own := [("row", 4)]) rfl sc__law_is_right.nd (di_seq (de_v 1)) (blkOk_by (N := N__law_is_right) (sc := defScope s__law_is_right) (by decide +kernel)) ⟨fun _ _ _ _ _ => (tv_name 4 sc__law_is_right.nd), fun _ _ _ _ _ => ts_nil, fun _ _ _ _ _ => (de_of (df_callTy call_list_of cf_list rfl Tx.b_list bt_list (da_cons (de_v 4) da_nil)))⟩)) (da_cons (de_lst da_nil) da_nil))))
    (ss_cons (st_for (vs := [3]) psW rfl (di_rng1 Tx.b_range (de_if (dt_cmp op_gt opd_cmp (de_lenN 2 Tx.b_len) de_int rfl) de_int de_int)) (tv_name 3 sc__law_is_right.nd) (ss_one (st_if (dt_not (dt_tru (de_c c__law_is_pair_right mono__law_is_pair_right hr (by omega) hgd rfl tkW (da_cons (de_v 1) (da_cons (de_cR 0 c__law_some mono__law_some hr (by omega) (fun h => by cases h) rfl tkW (da_cons (de_v 2) da_nil)) (da_cons (de_cR 0 c__law_some mono__law_some hr (by omega) (fun h => by cases h) rfl tkW (da_cons (de_v 2) da_nil)) da_nil)))))) (ss_one (st_ret de_bl)) ss_nil)))
    (ss_one (st_ret (de_or (de_cmp (op_eqA (room_u64 hr)) opd_eqA (de_lenN 2 Tx.b_len) de_int rfl) (de_one (de_c c__law_is_pair_right mono__law_is_pair_right hr (by omega) hgd rfl tkW (da_cons (de_v 1) (da_cons (de_ixK 2 (room_u hr) de_int) (da_cons (de_ixK 2 (room_u hr) de_int) da_nil)))))))))))) pu__law_is_right
abbrev s_law : Stmt := topS 34
abbrev N_law : List Str := ["script", "bag", "rows", "step"]
theorem sc_law : FnScope N_law ["script"] (defScope s_law) := ⟨rfl, rfl, rfl, by decide +kernel, rfl, by decide +kernel, by decide +kernel⟩
theorem k_law {P : Program} {w : World} {K : PySem.W.Frag} {mg : Str → Option Value} {base : Heap} {Tb : List (Addr × Str)} (F : Has K mg "law" s_law ["script"]) (Tx : Txt K mg) (Er : Errs K mg "CardError" ["NoCard", "NoDeal"]) (c__law_bag : ∀ zs : List Int, Can false P w K mg base 1 "_law_bag" ["script"] (spR K (scrRK K zs) THand)) (c__law_deal : Can false P w K mg base 3 "_law_deal" ["bag"] (spR K (RKh K) T__law_deal)) (c_swapped : Can false P w K mg base 7 "swapped" ["deal", "one", "other"] (spP K T_swapped)) (c_holder : Can false P w K mg base 7 "holder" ["deal", "card"] (spP K T_holder)) (c__law_swap_word : Can false P w K mg base 10 "_law_swap_word" ["rows", "one", "other"] (spQ K (RKt K Tb) T__law_swap_word)) (c__law_is_right : Can true P w K mg base 9 "_law_is_right" ["bag", "rows"] (spR K (RKh K) T__law_is_right)) (c__law_are_refused : Can false P w K mg base 11 "_law_are_refused" ["bag", "rows"] (spR K (RKt K Tb) T__law_are_refused)) : Can true P w K mg base 12 "law" ["script"] (spLawT K Tb 63) :=
  can_lawT F sc_law rfl (fun zs f cdv A outer s H E hr hgd => ⟨st_set 1 sc_law.nd (de_cR 0 (c__law_bag zs) mono_THand hr (by omega) (fun h => by cases h) rfl tkW da_nil), by
    exact (ss_cons (st_set 2 sc_law.nd (de_tup (da_cons (de_tup (da_cons de_int (da_cons de_int da_nil))) (da_cons (de_tup (da_cons de_int (da_cons de_int da_nil))) da_nil))))
    (ss_cons (st_if (dt_w (dw_or (dt_cmp (op_neA (room_u64 hr)) opd_neA (de_c c_swapped mono_swapped hr (by omega) (fun h => by cases h) rfl tkW (da_cons (de_v 2) (da_cons de_int (da_cons de_int da_nil)))) (de_tup (da_cons (de_tup (da_cons de_int (da_cons de_int da_nil))) (da_cons (de_tup (da_cons de_int (da_cons de_int da_nil))) da_nil))) rfl) (dw_or (dt_cmp (op_neA (room_u64 hr)) opd_neA (de_c c_swapped mono_swapped hr (by omega) (fun h => by cases h) rfl tkW (da_cons (de_v 2) (da_cons de_int (da_cons de_int da_nil)))) (de_v 2) rfl) (dw_or1 (dt_cmp (op_neA (room_u64 hr)) opd_neA (de_c c_holder mono_holder hr (by omega) (fun h => by cases h) rfl tkW (da_cons (de_v 2) (da_cons de_int da_nil))) de_int rfl))))) (ss_one (st_ret de_bl)) ss_nil)
    (ss_cons (st_if (dt_w (dw_or (dt_cmp op_isNotAll opd_isNot (de_c c_holder mono_holder hr (by omega) (fun h => by cases h) rfl tkW (da_cons (de_v 2) (da_cons de_int da_nil))) de_non rfl) (dw_or (dt_cmp (op_neA (room_u64 hr)) opd_neA (de_c c_holder mono_holder hr (by omega) (fun h => by cases h) rfl tkW (da_cons (de_tup (da_cons (de_tup da_nil) (da_cons (de_tup (da_cons de_int da_nil)) da_nil))) (da_cons de_int da_nil))) de_int rfl) (dw_or1 (dt_cmp (op_neA (room_u64 hr)) opd_neA (de_cQ c__law_swap_word mono__law_swap_word hr (by omega) (fun h => by cases h) rfl tkW (da_cons (de_v 2) (da_cons de_int (da_cons de_int da_nil)))) de_str rfl))))) (ss_one (st_ret de_bl)) ss_nil)
    (ss_cons (st_for (vs := [3]) psW rfl (di_rng1 Tx.b_range de_int) (tv_name 3 sc_law.nd) (ss_cons (st_set 2 sc_law.nd (de_cR 1 (c__law_deal.tab mono__law_deal) mono__law_deal hr (by omega) (fun h => by cases h) rfl tkW da_nil))
    (ss_one (st_if (dt_w (dw_or (dt_not (dt_tru (de_cR 1 (c__law_is_right.tab mono__law_is_right) mono__law_is_right hr (by omega) hgd rfl tkW (da_cons (de_v 2) da_nil)))) (dw_or1 (dt_not (dt_tru (de_cR 1 c__law_are_refused mono__law_are_refused hr (by omega) (fun h => by cases h) rfl tkW (da_cons (de_v 2) da_nil))))))) (ss_one (st_ret de_bl)) ss_nil))))
    (ss_one (st_ret de_bl))))))⟩) (by decide) pu_law
theorem all_mk {w : World} {K : PySem.W.Frag} {h : Heap} {mg : Str → Option Value} {fa : Addr} (X : K.In h) (G : h.Ns mainGlobals mg) (hfa : mg "law" = some (.ref fa)) {q : Program} (TP : ∃ mb loose mean, PyProof.Rows.Top q loose mean mg mb h)
    {f0 : Addr} {od0 an0 : Option Addr} {sl0 : Array (Option Value)} {oc0 kV0 dc0 pm0 cd0 ct0 : Value}
    {f1 : Addr} {od1 an1 : Option Addr} {sl1 : Array (Option Value)} {oc1 kV1 dc1 pm1 cd1 ct1 : Value}
    {f2 : Addr} {od2 an2 : Option Addr} {sl2 : Array (Option Value)} {oc2 kV2 dc2 pm2 cd2 ct2 : Value}
    {f3 : Addr} {od3 an3 : Option Addr} {sl3 : Array (Option Value)} {oc3 kV3 dc3 pm3 cd3 ct3 : Value}
    {f4 : Addr} {od4 an4 : Option Addr} {sl4 : Array (Option Value)} {oc4 kV4 dc4 pm4 cd4 ct4 : Value}
    {f5 : Addr} {od5 an5 : Option Addr} {sl5 : Array (Option Value)} {oc5 kV5 dc5 pm5 cd5 ct5 : Value}
    {f6 : Addr} {od6 an6 : Option Addr} {sl6 : Array (Option Value)} {oc6 kV6 dc6 pm6 cd6 ct6 : Value}
    {f7 : Addr} {od7 an7 : Option Addr} {sl7 : Array (Option Value)} {oc7 kV7 dc7 pm7 cd7 ct7 : Value}
    {f8 : Addr} {od8 an8 : Option Addr} {sl8 : Array (Option Value)} {oc8 kV8 dc8 pm8 cd8 ct8 : Value}
    {f9 : Addr} {od9 an9 : Option Addr} {sl9 : Array (Option Value)} {oc9 kV9 dc9 pm9 cd9 ct9 : Value}
    {f10 : Addr} {od10 an10 : Option Addr} {sl10 : Array (Option Value)} {oc10 kV10 dc10 pm10 cd10 ct10 : Value}
    {f11 : Addr} {od11 an11 : Option Addr} {sl11 : Array (Option Value)} {oc11 kV11 dc11 pm11 cd11 ct11 : Value}
    {f12 : Addr} {od12 an12 : Option Addr} {sl12 : Array (Option Value)} {oc12 kV12 dc12 pm12 cd12 ct12 : Value}
    {f13 : Addr} {od13 an13 : Option Addr} {sl13 : Array (Option Value)} {oc13 kV13 dc13 pm13 cd13 ct13 : Value}
    {f14 : Addr} {od14 an14 : Option Addr} {sl14 : Array (Option Value)} {oc14 kV14 dc14 pm14 cd14 ct14 : Value}
    {f15 : Addr} {od15 an15 : Option Addr} {sl15 : Array (Option Value)} {oc15 kV15 dc15 pm15 cd15 ct15 : Value}
    {f16 : Addr} {od16 an16 : Option Addr} {sl16 : Array (Option Value)} {oc16 kV16 dc16 pm16 cd16 ct16 : Value}
    {f17 : Addr} {od17 an17 : Option Addr} {sl17 : Array (Option Value)} {oc17 kV17 dc17 pm17 cd17 ct17 : Value}
    {f18 : Addr} {od18 an18 : Option Addr} {sl18 : Array (Option Value)} {oc18 kV18 dc18 pm18 cd18 ct18 : Value}
    {f19 : Addr} {od19 an19 : Option Addr} {sl19 : Array (Option Value)} {oc19 kV19 dc19 pm19 cd19 ct19 : Value}
    {f20 : Addr} {od20 an20 : Option Addr} {sl20 : Array (Option Value)} {oc20 kV20 dc20 pm20 cd20 ct20 : Value}
    {f21 : Addr} {od21 an21 : Option Addr} {sl21 : Array (Option Value)} {oc21 kV21 dc21 pm21 cd21 ct21 : Value}
    {f22 : Addr} {od22 an22 : Option Addr} {sl22 : Array (Option Value)} {oc22 kV22 dc22 pm22 cd22 ct22 : Value}
    {f23 : Addr} {od23 an23 : Option Addr} {sl23 : Array (Option Value)} {oc23 kV23 dc23 pm23 cd23 ct23 : Value}
    {f24 : Addr} {od24 an24 : Option Addr} {sl24 : Array (Option Value)} {oc24 kV24 dc24 pm24 cd24 ct24 : Value}
    {t_CARDS_MANY : Nat}
    {t_MOST_PLAYERS : Nat}
    (a0 : PySem.W.nsIn K mainGlobals "is_integer" = some (some (.ref f0))) (l0 : K.lookup f0 = some ⟨oc0, od0, .func (PySem.W.fnOf "is_integer" "is_integer" (defArgs s_is_integer) (defBody s_is_integer) (defScope s_is_integer) .none kV0 dc0 pm0 an0 cd0 ct0), sl0⟩) (q0 : PySem.W.codeIn K cd0 "is_integer" = true) (k0 : PySem.W.keepIn K (.ref f0) = true)
    (a1 : PySem.W.nsIn K mainGlobals "is_within" = some (some (.ref f1))) (l1 : K.lookup f1 = some ⟨oc1, od1, .func (PySem.W.fnOf "is_within" "is_within" (defArgs s_is_within) (defBody s_is_within) (defScope s_is_within) .none kV1 dc1 pm1 an1 cd1 ct1), sl1⟩) (q1 : PySem.W.codeIn K cd1 "is_within" = true) (k1 : PySem.W.keepIn K (.ref f1) = true)
    (a2 : PySem.W.nsIn K mainGlobals "is_card" = some (some (.ref f2))) (l2 : K.lookup f2 = some ⟨oc2, od2, .func (PySem.W.fnOf "is_card" "is_card" (defArgs s_is_card) (defBody s_is_card) (defScope s_is_card) .none kV2 dc2 pm2 an2 cd2 ct2), sl2⟩) (q2 : PySem.W.codeIn K cd2 "is_card" = true) (k2 : PySem.W.keepIn K (.ref f2) = true)
    (a3 : PySem.W.nsIn K mainGlobals "is_hand" = some (some (.ref f3))) (l3 : K.lookup f3 = some ⟨oc3, od3, .func (PySem.W.fnOf "is_hand" "is_hand" (defArgs s_is_hand) (defBody s_is_hand) (defScope s_is_hand) .none kV3 dc3 pm3 an3 cd3 ct3), sl3⟩) (q3 : PySem.W.codeIn K cd3 "is_hand" = true) (k3 : PySem.W.keepIn K (.ref f3) = true)
    (a4 : PySem.W.nsIn K mainGlobals "are_apart" = some (some (.ref f4))) (l4 : K.lookup f4 = some ⟨oc4, od4, .func (PySem.W.fnOf "are_apart" "are_apart" (defArgs s_are_apart) (defBody s_are_apart) (defScope s_are_apart) .none kV4 dc4 pm4 an4 cd4 ct4), sl4⟩) (q4 : PySem.W.codeIn K cd4 "are_apart" = true) (k4 : PySem.W.keepIn K (.ref f4) = true)
    (a5 : PySem.W.nsIn K mainGlobals "is_deal" = some (some (.ref f5))) (l5 : K.lookup f5 = some ⟨oc5, od5, .func (PySem.W.fnOf "is_deal" "is_deal" (defArgs s_is_deal) (defBody s_is_deal) (defScope s_is_deal) .none kV5 dc5 pm5 an5 cd5 ct5), sl5⟩) (q5 : PySem.W.codeIn K cd5 "is_deal" = true) (k5 : PySem.W.keepIn K (.ref f5) = true)
    (a6 : PySem.W.nsIn K mainGlobals "check_deal" = some (some (.ref f6))) (l6 : K.lookup f6 = some ⟨oc6, od6, .func (PySem.W.fnOf "check_deal" "check_deal" (defArgs s_check_deal) (defBody s_check_deal) (defScope s_check_deal) .none kV6 dc6 pm6 an6 cd6 ct6), sl6⟩) (q6 : PySem.W.codeIn K cd6 "check_deal" = true) (k6 : PySem.W.keepIn K (.ref f6) = true)
    (a7 : PySem.W.nsIn K mainGlobals "raw_holder" = some (some (.ref f7))) (l7 : K.lookup f7 = some ⟨oc7, od7, .func (PySem.W.fnOf "raw_holder" "raw_holder" (defArgs s_raw_holder) (defBody s_raw_holder) (defScope s_raw_holder) .none kV7 dc7 pm7 an7 cd7 ct7), sl7⟩) (q7 : PySem.W.codeIn K cd7 "raw_holder" = true) (k7 : PySem.W.keepIn K (.ref f7) = true)
    (a8 : PySem.W.nsIn K mainGlobals "holder" = some (some (.ref f8))) (l8 : K.lookup f8 = some ⟨oc8, od8, .func (PySem.W.fnOf "holder" "holder" (defArgs s_holder) (defBody s_holder) (defScope s_holder) .none kV8 dc8 pm8 an8 cd8 ct8), sl8⟩) (q8 : PySem.W.codeIn K cd8 "holder" = true) (k8 : PySem.W.keepIn K (.ref f8) = true)
    (a9 : PySem.W.nsIn K mainGlobals "swapped" = some (some (.ref f9))) (l9 : K.lookup f9 = some ⟨oc9, od9, .func (PySem.W.fnOf "swapped" "swapped" (defArgs s_swapped) (defBody s_swapped) (defScope s_swapped) .none kV9 dc9 pm9 an9 cd9 ct9), sl9⟩) (q9 : PySem.W.codeIn K cd9 "swapped" = true) (k9 : PySem.W.keepIn K (.ref f9) = true)
    (a10 : PySem.W.nsIn K mainGlobals "_law_bag" = some (some (.ref f10))) (l10 : K.lookup f10 = some ⟨oc10, od10, .func (PySem.W.fnOf "_law_bag" "_law_bag" (defArgs s__law_bag) (defBody s__law_bag) (defScope s__law_bag) .none kV10 dc10 pm10 an10 cd10 ct10), sl10⟩) (q10 : PySem.W.codeIn K cd10 "_law_bag" = true) (k10 : PySem.W.keepIn K (.ref f10) = true)
    (a11 : PySem.W.nsIn K mainGlobals "_law_pick" = some (some (.ref f11))) (l11 : K.lookup f11 = some ⟨oc11, od11, .func (PySem.W.fnOf "_law_pick" "_law_pick" (defArgs s__law_pick) (defBody s__law_pick) (defScope s__law_pick) .none kV11 dc11 pm11 an11 cd11 ct11), sl11⟩) (q11 : PySem.W.codeIn K cd11 "_law_pick" = true) (k11 : PySem.W.keepIn K (.ref f11) = true)
    (a12 : PySem.W.nsIn K mainGlobals "_law_some" = some (some (.ref f12))) (l12 : K.lookup f12 = some ⟨oc12, od12, .func (PySem.W.fnOf "_law_some" "_law_some" (defArgs s__law_some) (defBody s__law_some) (defScope s__law_some) .none kV12 dc12 pm12 an12 cd12 ct12), sl12⟩) (q12 : PySem.W.codeIn K cd12 "_law_some" = true) (k12 : PySem.W.keepIn K (.ref f12) = true)
    (a13 : PySem.W.nsIn K mainGlobals "_law_mixed" = some (some (.ref f13))) (l13 : K.lookup f13 = some ⟨oc13, od13, .func (PySem.W.fnOf "_law_mixed" "_law_mixed" (defArgs s__law_mixed) (defBody s__law_mixed) (defScope s__law_mixed) .none kV13 dc13 pm13 an13 cd13 ct13), sl13⟩) (q13 : PySem.W.codeIn K cd13 "_law_mixed" = true) (k13 : PySem.W.keepIn K (.ref f13) = true)
    (a14 : PySem.W.nsIn K mainGlobals "_law_deal" = some (some (.ref f14))) (l14 : K.lookup f14 = some ⟨oc14, od14, .func (PySem.W.fnOf "_law_deal" "_law_deal" (defArgs s__law_deal) (defBody s__law_deal) (defScope s__law_deal) .none kV14 dc14 pm14 an14 cd14 ct14), sl14⟩) (q14 : PySem.W.codeIn K cd14 "_law_deal" = true) (k14 : PySem.W.keepIn K (.ref f14) = true)
    (a15 : PySem.W.nsIn K mainGlobals "_law_holder" = some (some (.ref f15))) (l15 : K.lookup f15 = some ⟨oc15, od15, .func (PySem.W.fnOf "_law_holder" "_law_holder" (defArgs s__law_holder) (defBody s__law_holder) (defScope s__law_holder) .none kV15 dc15 pm15 an15 cd15 ct15), sl15⟩) (q15 : PySem.W.codeIn K cd15 "_law_holder" = true) (k15 : PySem.W.keepIn K (.ref f15) = true)
    (a16 : PySem.W.nsIn K mainGlobals "_law_swapped" = some (some (.ref f16))) (l16 : K.lookup f16 = some ⟨oc16, od16, .func (PySem.W.fnOf "_law_swapped" "_law_swapped" (defArgs s__law_swapped) (defBody s__law_swapped) (defScope s__law_swapped) .none kV16 dc16 pm16 an16 cd16 ct16), sl16⟩) (q16 : PySem.W.codeIn K cd16 "_law_swapped" = true) (k16 : PySem.W.keepIn K (.ref f16) = true)
    (a17 : PySem.W.nsIn K mainGlobals "_law_word" = some (some (.ref f17))) (l17 : K.lookup f17 = some ⟨oc17, od17, .func (PySem.W.fnOf "_law_word" "_law_word" (defArgs s__law_word) (defBody s__law_word) (defScope s__law_word) .none kV17 dc17 pm17 an17 cd17 ct17), sl17⟩) (q17 : PySem.W.codeIn K cd17 "_law_word" = true) (k17 : PySem.W.keepIn K (.ref f17) = true)
    (a18 : PySem.W.nsIn K mainGlobals "_law_deep" = some (some (.ref f18))) (l18 : K.lookup f18 = some ⟨oc18, od18, .func (PySem.W.fnOf "_law_deep" "_law_deep" (defArgs s__law_deep) (defBody s__law_deep) (defScope s__law_deep) .none kV18 dc18 pm18 an18 cd18 ct18), sl18⟩) (q18 : PySem.W.codeIn K cd18 "_law_deep" = true) (k18 : PySem.W.keepIn K (.ref f18) = true)
    (a19 : PySem.W.nsIn K mainGlobals "_law_swap_word" = some (some (.ref f19))) (l19 : K.lookup f19 = some ⟨oc19, od19, .func (PySem.W.fnOf "_law_swap_word" "_law_swap_word" (defArgs s__law_swap_word) (defBody s__law_swap_word) (defScope s__law_swap_word) .none kV19 dc19 pm19 an19 cd19 ct19), sl19⟩) (q19 : PySem.W.codeIn K cd19 "_law_swap_word" = true) (k19 : PySem.W.keepIn K (.ref f19) = true)
    (a20 : PySem.W.nsIn K mainGlobals "_law_holder_word" = some (some (.ref f20))) (l20 : K.lookup f20 = some ⟨oc20, od20, .func (PySem.W.fnOf "_law_holder_word" "_law_holder_word" (defArgs s__law_holder_word) (defBody s__law_holder_word) (defScope s__law_holder_word) .none kV20 dc20 pm20 an20 cd20 ct20), sl20⟩) (q20 : PySem.W.codeIn K cd20 "_law_holder_word" = true) (k20 : PySem.W.keepIn K (.ref f20) = true)
    (a21 : PySem.W.nsIn K mainGlobals "_law_are_refused" = some (some (.ref f21))) (l21 : K.lookup f21 = some ⟨oc21, od21, .func (PySem.W.fnOf "_law_are_refused" "_law_are_refused" (defArgs s__law_are_refused) (defBody s__law_are_refused) (defScope s__law_are_refused) .none kV21 dc21 pm21 an21 cd21 ct21), sl21⟩) (q21 : PySem.W.codeIn K cd21 "_law_are_refused" = true) (k21 : PySem.W.keepIn K (.ref f21) = true)
    (a22 : PySem.W.nsIn K mainGlobals "_law_is_pair_right" = some (some (.ref f22))) (l22 : K.lookup f22 = some ⟨oc22, od22, .func (PySem.W.fnOf "_law_is_pair_right" "_law_is_pair_right" (defArgs s__law_is_pair_right) (defBody s__law_is_pair_right) (defScope s__law_is_pair_right) .none kV22 dc22 pm22 an22 cd22 ct22), sl22⟩) (q22 : PySem.W.codeIn K cd22 "_law_is_pair_right" = true) (k22 : PySem.W.keepIn K (.ref f22) = true)
    (a23 : PySem.W.nsIn K mainGlobals "_law_is_right" = some (some (.ref f23))) (l23 : K.lookup f23 = some ⟨oc23, od23, .func (PySem.W.fnOf "_law_is_right" "_law_is_right" (defArgs s__law_is_right) (defBody s__law_is_right) (defScope s__law_is_right) .none kV23 dc23 pm23 an23 cd23 ct23), sl23⟩) (q23 : PySem.W.codeIn K cd23 "_law_is_right" = true) (k23 : PySem.W.keepIn K (.ref f23) = true)
    (a24 : PySem.W.nsIn K mainGlobals "law" = some (some (.ref f24))) (l24 : K.lookup f24 = some ⟨oc24, od24, .func (PySem.W.fnOf "law" "law" (defArgs s_law) (defBody s_law) (defScope s_law) .none kV24 dc24 pm24 an24 cd24 ct24), sl24⟩) (q24 : PySem.W.codeIn K cd24 "law" = true) (k24 : PySem.W.keepIn K (.ref f24) = true)
    (z_bool : PySem.W.nsIn K mainGlobals "bool" = some none)
    (z_isinstance : PySem.W.nsIn K mainGlobals "isinstance" = some none)
    (z_int : PySem.W.nsIn K mainGlobals "int" = some none)
    (z_len : PySem.W.nsIn K mainGlobals "len" = some none)
    (z_sum : PySem.W.nsIn K mainGlobals "sum" = some none)
    (z_enumerate : PySem.W.nsIn K mainGlobals "enumerate" = some none)
    (z_abs : PySem.W.nsIn K mainGlobals "abs" = some none)
    (z_tuple : PySem.W.nsIn K mainGlobals "tuple" = some none)
    (z_sorted : PySem.W.nsIn K mainGlobals "sorted" = some none)
    (z_ValueError : PySem.W.nsIn K mainGlobals "ValueError" = some none)
    (z_list : PySem.W.nsIn K mainGlobals "list" = some none)
    (z_range : PySem.W.nsIn K mainGlobals "range" = some none)
    (z_zip : PySem.W.nsIn K mainGlobals "zip" = some none)
    (z_all : PySem.W.nsIn K mainGlobals "all" = some none)
    (z_repr : PySem.W.nsIn K mainGlobals "repr" = some none)
    (g_CARDS_MANY : PySem.W.nsIn K mainGlobals "CARDS_MANY" = some (some (.int 52 t_CARDS_MANY)))
    (g_MOST_PLAYERS : PySem.W.nsIn K mainGlobals "MOST_PLAYERS" = some (some (.int 4 t_MOST_PLAYERS)))
    (er : errsB K "CardError" ["NoCard", "NoDeal"] = true)
    (tL__law_swap_word : (PySem.W.tabIn K "_law_swap_word").isSome = true) (uL__law_swap_word : (K.lookup (DL.tabP K "_law_swap_word")).isNone = true) (rL__law_swap_word : ((recsOf q).find? (fun e => e.name == ("_law_swap_word" : Str))).isSome = true)
    (tL__law_holder_word : (PySem.W.tabIn K "_law_holder_word").isSome = true) (uL__law_holder_word : (K.lookup (DL.tabP K "_law_holder_word")).isNone = true) (rL__law_holder_word : ((recsOf q).find? (fun e => e.name == ("_law_holder_word" : Str))).isSome = true)
    (nL : decide [(DL.tabP K "_law_swap_word"), (DL.tabP K "_law_holder_word")].Nodup = true)
    : ∃ (cs : List (Addr × Addr)) (Tb : List (Addr × Str)), (∀ c ∈ cs, h.get? c.2 = some { cls := .none, data := .fields #[] }) ∧ (∀ c ∈ cs, K.lookup c.2 = none) ∧ (∀ c ∈ cs, PySem.W.CodeHd h c.1 c.2) ∧ (∀ t ∈ Tb, ∃ c ∈ cs, c.2 = t.1) ∧ ∀ base : Heap, K.In base → base.Ns mainGlobals mg → (∀ c ∈ cs, TabB base mg c.1 c.2) → ∃ fd : FuncData, (∀ (s : Shared) (u : Value), K.In s.heap → BindsTo s fd ⟨[u], []⟩ [("script", u)]) ∧ FnG true PySem.Challenge.pw_cardtable_k08_whole_holders_and_swapped w K mg base 12 fa fd ["script"] (spLawT K Tb 63) := by
  have hcs : ∀ c ∈ [((DL.tabC K "_law_swap_word"), (DL.tabP K "_law_swap_word")), ((DL.tabC K "_law_holder_word"), (DL.tabP K "_law_holder_word"))], h.get? c.2 = some { cls := .none, data := .fields #[] } ∧ PySem.W.CodeHd h c.1 c.2 ∧ K.lookup c.2 = none := by
    simp only [List.forall_mem_cons]
    exact ⟨⟨(tab_get TP X rL__law_swap_word (tab_some tL__law_swap_word)).1, (tab_get TP X rL__law_swap_word (tab_some tL__law_swap_word)).2, look_none uL__law_swap_word⟩, ⟨(tab_get TP X rL__law_holder_word (tab_some tL__law_holder_word)).1, (tab_get TP X rL__law_holder_word (tab_some tL__law_holder_word)).2, look_none uL__law_holder_word⟩, by simp⟩
  have htb := lamTabs (Tb := [((DL.tabP K "_law_swap_word"), lamQ "_law_swap_word"), ((DL.tabP K "_law_holder_word"), lamQ "_law_holder_word")]) (nodup_of nL)
  refine ⟨[((DL.tabC K "_law_swap_word"), (DL.tabP K "_law_swap_word")), ((DL.tabC K "_law_holder_word"), (DL.tabP K "_law_holder_word"))], [((DL.tabP K "_law_swap_word"), lamQ "_law_swap_word"), ((DL.tabP K "_law_holder_word"), lamQ "_law_holder_word")], fun c hc => (hcs c hc).1, fun c hc => (hcs c hc).2.2, fun c hc => (hcs c hc).2.1, by simp, fun base Xb Gb TBs => ?_⟩
  have TO__law_swap_word := tabOf_mk X G (tab_some tL__law_swap_word) (TBs ((DL.tabC K "_law_swap_word"), (DL.tabP K "_law_swap_word")) (by simp))
  have lt__law_swap_word : LamTab [((DL.tabP K "_law_swap_word"), lamQ "_law_swap_word"), ((DL.tabP K "_law_holder_word"), lamQ "_law_holder_word")] (DL.tabP K "_law_swap_word") (lamQ "_law_swap_word") := htb ((DL.tabP K "_law_swap_word"), lamQ "_law_swap_word") (by simp)
  have TO__law_holder_word := tabOf_mk X G (tab_some tL__law_holder_word) (TBs ((DL.tabC K "_law_holder_word"), (DL.tabP K "_law_holder_word")) (by simp))
  have lt__law_holder_word : LamTab [((DL.tabP K "_law_swap_word"), lamQ "_law_swap_word"), ((DL.tabP K "_law_holder_word"), lamQ "_law_holder_word")] (DL.tabP K "_law_holder_word") (lamQ "_law_holder_word") := htb ((DL.tabP K "_law_holder_word"), lamQ "_law_holder_word") (by simp)
  have Er := errs_mk X G er
  have Tx : Txt K mg := ⟨PySem.W.mg_none_of X G z_bool, PySem.W.mg_none_of X G z_isinstance, PySem.W.mg_none_of X G z_int, PySem.W.mg_none_of X G z_len, PySem.W.mg_none_of X G z_sum, PySem.W.mg_none_of X G z_enumerate, PySem.W.mg_none_of X G z_abs, PySem.W.mg_none_of X G z_tuple, PySem.W.mg_none_of X G z_sorted, PySem.W.mg_none_of X G z_ValueError, PySem.W.mg_none_of X G z_list, PySem.W.mg_none_of X G z_range, PySem.W.mg_none_of X G z_zip, PySem.W.mg_none_of X G z_all, PySem.W.mg_none_of X G z_repr, ⟨_, PySem.W.mg_of X G g_CARDS_MANY⟩, ⟨_, PySem.W.mg_of X G g_MOST_PLAYERS⟩⟩
  have F_is_integer : Has K mg "is_integer" s_is_integer ["thing"] := has_mk X G a0 l0 q0 k0 (fun _ _ _ _ _ _ us hl => match us, hl with | [_], _ => rfl)
  have F_is_within : Has K mg "is_within" s_is_within ["thing", "least", "most"] := has_mk X G a1 l1 q1 k1 (fun _ _ _ _ _ _ us hl => match us, hl with | [_, _, _], _ => rfl)
  have F_is_card : Has K mg "is_card" s_is_card ["thing"] := has_mk X G a2 l2 q2 k2 (fun _ _ _ _ _ _ us hl => match us, hl with | [_], _ => rfl)
  have F_is_hand : Has K mg "is_hand" s_is_hand ["thing"] := has_mk X G a3 l3 q3 k3 (fun _ _ _ _ _ _ us hl => match us, hl with | [_], _ => rfl)
  have F_are_apart : Has K mg "are_apart" s_are_apart ["hands"] := has_mk X G a4 l4 q4 k4 (fun _ _ _ _ _ _ us hl => match us, hl with | [_], _ => rfl)
  have F_is_deal : Has K mg "is_deal" s_is_deal ["thing"] := has_mk X G a5 l5 q5 k5 (fun _ _ _ _ _ _ us hl => match us, hl with | [_], _ => rfl)
  have F_check_deal : Has K mg "check_deal" s_check_deal ["deal"] := has_mk X G a6 l6 q6 k6 (fun _ _ _ _ _ _ us hl => match us, hl with | [_], _ => rfl)
  have F_raw_holder : Has K mg "raw_holder" s_raw_holder ["deal", "card"] := has_mk X G a7 l7 q7 k7 (fun _ _ _ _ _ _ us hl => match us, hl with | [_, _], _ => rfl)
  have F_holder : Has K mg "holder" s_holder ["deal", "card"] := has_mk X G a8 l8 q8 k8 (fun _ _ _ _ _ _ us hl => match us, hl with | [_, _], _ => rfl)
  have F_swapped : Has K mg "swapped" s_swapped ["deal", "one", "other"] := has_mk X G a9 l9 q9 k9 (fun _ _ _ _ _ _ us hl => match us, hl with | [_, _, _], _ => rfl)
  have F__law_bag : Has K mg "_law_bag" s__law_bag ["script"] := has_mk X G a10 l10 q10 k10 (fun _ _ _ _ _ _ us hl => match us, hl with | [_], _ => rfl)
  have F__law_pick : Has K mg "_law_pick" s__law_pick ["bag", "many"] := has_mk X G a11 l11 q11 k11 (fun _ _ _ _ _ _ us hl => match us, hl with | [_, _], _ => rfl)
  have F__law_some : Has K mg "_law_some" s__law_some ["bag", "things"] := has_mk X G a12 l12 q12 k12 (fun _ _ _ _ _ _ us hl => match us, hl with | [_, _], _ => rfl)
  have F__law_mixed : Has K mg "_law_mixed" s__law_mixed ["bag", "things"] := has_mk X G a13 l13 q13 k13 (fun _ _ _ _ _ _ us hl => match us, hl with | [_, _], _ => rfl)
  have F__law_deal : Has K mg "_law_deal" s__law_deal ["bag"] := has_mk X G a14 l14 q14 k14 (fun _ _ _ _ _ _ us hl => match us, hl with | [_], _ => rfl)
  have F__law_holder : Has K mg "_law_holder" s__law_holder ["rows", "card"] := has_mk X G a15 l15 q15 k15 (fun _ _ _ _ _ _ us hl => match us, hl with | [_, _], _ => rfl)
  have F__law_swapped : Has K mg "_law_swapped" s__law_swapped ["rows", "one", "other"] := has_mk X G a16 l16 q16 k16 (fun _ _ _ _ _ _ us hl => match us, hl with | [_, _, _], _ => rfl)
  have F__law_word : Has K mg "_law_word" s__law_word ["call"] := has_mk X G a17 l17 q17 k17 (fun _ _ _ _ _ _ us hl => match us, hl with | [_], _ => rfl)
  have F__law_deep : Has K mg "_law_deep" s__law_deep ["bag"] := has_mk X G a18 l18 q18 k18 (fun _ _ _ _ _ _ us hl => match us, hl with | [_], _ => rfl)
  have F__law_swap_word : Has K mg "_law_swap_word" s__law_swap_word ["rows", "one", "other"] := has_mk X G a19 l19 q19 k19 (fun _ _ _ _ _ _ us hl => match us, hl with | [_, _, _], _ => rfl)
  have F__law_holder_word : Has K mg "_law_holder_word" s__law_holder_word ["rows", "card"] := has_mk X G a20 l20 q20 k20 (fun _ _ _ _ _ _ us hl => match us, hl with | [_, _], _ => rfl)
  have F__law_are_refused : Has K mg "_law_are_refused" s__law_are_refused ["bag", "rows"] := has_mk X G a21 l21 q21 k21 (fun _ _ _ _ _ _ us hl => match us, hl with | [_, _], _ => rfl)
  have F__law_is_pair_right : Has K mg "_law_is_pair_right" s__law_is_pair_right ["rows", "one", "other"] := has_mk X G a22 l22 q22 k22 (fun _ _ _ _ _ _ us hl => match us, hl with | [_, _, _], _ => rfl)
  have F__law_is_right : Has K mg "_law_is_right" s__law_is_right ["bag", "rows"] := has_mk X G a23 l23 q23 k23 (fun _ _ _ _ _ _ us hl => match us, hl with | [_, _], _ => rfl)
  have F_law : Has K mg "law" s_law ["script"] := has_mk X G a24 l24 q24 k24 (fun _ _ _ _ _ _ us hl => match us, hl with | [_], _ => rfl)
  have c_is_integer := k_is_integer (P := PySem.Challenge.pw_cardtable_k08_whole_holders_and_swapped) (w := w) (base := base) F_is_integer Tx Er 
  have c_is_within := k_is_within (P := PySem.Challenge.pw_cardtable_k08_whole_holders_and_swapped) (w := w) (base := base) F_is_within Tx Er c_is_integer
  have c_is_card := k_is_card (P := PySem.Challenge.pw_cardtable_k08_whole_holders_and_swapped) (w := w) (base := base) F_is_card Tx Er c_is_within
  have c_is_hand := k_is_hand (P := PySem.Challenge.pw_cardtable_k08_whole_holders_and_swapped) (w := w) (base := base) F_is_hand Tx Er c_is_card
  have c_are_apart := k_are_apart (P := PySem.Challenge.pw_cardtable_k08_whole_holders_and_swapped) (w := w) (base := base) F_are_apart Tx Er 
  have c_is_deal := k_is_deal (P := PySem.Challenge.pw_cardtable_k08_whole_holders_and_swapped) (w := w) (base := base) F_is_deal Tx Er c_are_apart c_is_hand
  have c_check_deal := k_check_deal (P := PySem.Challenge.pw_cardtable_k08_whole_holders_and_swapped) (w := w) (base := base) F_check_deal Tx Er c_is_deal
  have c_raw_holder := k_raw_holder (P := PySem.Challenge.pw_cardtable_k08_whole_holders_and_swapped) (w := w) (base := base) F_raw_holder Tx Er 
  have c_holder := k_holder (P := PySem.Challenge.pw_cardtable_k08_whole_holders_and_swapped) (w := w) (base := base) F_holder Tx Er c_check_deal c_raw_holder c_is_card
  have c_swapped := k_swapped (P := PySem.Challenge.pw_cardtable_k08_whole_holders_and_swapped) (w := w) (base := base) F_swapped Tx Er c_check_deal c_is_card c_raw_holder
  have c__law_bag : ∀ zs : List Int, _ := fun zs => k__law_bag (P := PySem.Challenge.pw_cardtable_k08_whole_holders_and_swapped) (w := w) (base := base) F__law_bag Tx Er  zs
  have c__law_pick := k__law_pick (P := PySem.Challenge.pw_cardtable_k08_whole_holders_and_swapped) (w := w) (base := base) F__law_pick Tx Er 
  have c__law_some := k__law_some (P := PySem.Challenge.pw_cardtable_k08_whole_holders_and_swapped) (w := w) (base := base) F__law_some Tx Er c__law_pick
  have c__law_mixed := k__law_mixed (P := PySem.Challenge.pw_cardtable_k08_whole_holders_and_swapped) (w := w) (base := base) F__law_mixed Tx Er c__law_pick
  have c__law_deal := k__law_deal (P := PySem.Challenge.pw_cardtable_k08_whole_holders_and_swapped) (w := w) (base := base) F__law_deal Tx Er c__law_some c__law_mixed c__law_pick
  have c__law_holder := k__law_holder (P := PySem.Challenge.pw_cardtable_k08_whole_holders_and_swapped) (w := w) (base := base) F__law_holder Tx Er 
  have c__law_swapped := k__law_swapped (P := PySem.Challenge.pw_cardtable_k08_whole_holders_and_swapped) (w := w) (base := base) F__law_swapped Tx Er 
  have c__law_word := k__law_word (P := PySem.Challenge.pw_cardtable_k08_whole_holders_and_swapped) (w := w) (base := base) F__law_word Tx Er 
  have c__law_deep := k__law_deep (P := PySem.Challenge.pw_cardtable_k08_whole_holders_and_swapped) (w := w) (base := base) F__law_deep Tx Er c__law_some c__law_pick
  have c__law_swap_word := k__law_swap_word (P := PySem.Challenge.pw_cardtable_k08_whole_holders_and_swapped) (w := w) (base := base) (Tb := [((DL.tabP K "_law_swap_word"), lamQ "_law_swap_word"), ((DL.tabP K "_law_holder_word"), lamQ "_law_holder_word")]) F__law_swap_word Tx Er c__law_word c_swapped TO__law_swap_word lt__law_swap_word
  have c__law_holder_word := k__law_holder_word (P := PySem.Challenge.pw_cardtable_k08_whole_holders_and_swapped) (w := w) (base := base) (Tb := [((DL.tabP K "_law_swap_word"), lamQ "_law_swap_word"), ((DL.tabP K "_law_holder_word"), lamQ "_law_holder_word")]) F__law_holder_word Tx Er c__law_word c_holder TO__law_holder_word lt__law_holder_word
  have c__law_are_refused := k__law_are_refused (P := PySem.Challenge.pw_cardtable_k08_whole_holders_and_swapped) (w := w) (base := base) (Tb := [((DL.tabP K "_law_swap_word"), lamQ "_law_swap_word"), ((DL.tabP K "_law_holder_word"), lamQ "_law_holder_word")]) F__law_are_refused Tx Er c__law_some c__law_holder_word c__law_swap_word c__law_deep
  have c__law_is_pair_right := k__law_is_pair_right (P := PySem.Challenge.pw_cardtable_k08_whole_holders_and_swapped) (w := w) (base := base) F__law_is_pair_right Tx Er c__law_swapped c_swapped c_holder
  have c__law_is_right := k__law_is_right (P := PySem.Challenge.pw_cardtable_k08_whole_holders_and_swapped) (w := w) (base := base) F__law_is_right Tx Er c__law_is_pair_right c__law_some c_holder c__law_holder
  have c_law := k_law (P := PySem.Challenge.pw_cardtable_k08_whole_holders_and_swapped) (w := w) (base := base) (Tb := [((DL.tabP K "_law_swap_word"), lamQ "_law_swap_word"), ((DL.tabP K "_law_holder_word"), lamQ "_law_holder_word")]) F_law Tx Er c__law_bag c__law_deal c_swapped c_holder c__law_swap_word c__law_is_right c__law_are_refused
  exact law_fdT hfa c_law
end K08
open PySem PySem.W PyProof.Rows
set_option maxRecDepth 100000 in
set_option maxHeartbeats 0 in
theorem PySem.Challenge.cw_cardtable_k08_whole_holders_and_swapped_holds : PySem.Challenge.rw_cardtable_k08_whole_holders_and_swapped.Holds := by
  w_on; o_law; k_head; (case hw => w_witness2)
  k_fill
  refine DL.walk_GT (l := PySem.Challenge.rw_cardtable_k08_whole_holders_and_swapped) (n := 63) (k := 12) (x := "script") rfl (by decide) rfl ⟨rfl, by decide, by decide⟩ (fun w h Y => PySem.W.km_in_of Y) ?F
  case F =>
    intro w mg fa h KX G hmg TP
    refine' K08.all_mk (w := w) KX G hmg TP ?a0 ?l0 ?q0 ?k0 ?a1 ?l1 ?q1 ?k1 ?a2 ?l2 ?q2 ?k2 ?a3 ?l3 ?q3 ?k3 ?a4 ?l4 ?q4 ?k4 ?a5 ?l5 ?q5 ?k5 ?a6 ?l6 ?q6 ?k6 ?a7 ?l7 ?q7 ?k7 ?a8 ?l8 ?q8 ?k8 ?a9 ?l9 ?q9 ?k9 ?a10 ?l10 ?q10 ?k10 ?a11 ?l11 ?q11 ?k11 ?a12 ?l12 ?q12 ?k12 ?a13 ?l13 ?q13 ?k13 ?a14 ?l14 ?q14 ?k14 ?a15 ?l15 ?q15 ?k15 ?a16 ?l16 ?q16 ?k16 ?a17 ?l17 ?q17 ?k17 ?a18 ?l18 ?q18 ?k18 ?a19 ?l19 ?q19 ?k19 ?a20 ?l20 ?q20 ?k20 ?a21 ?l21 ?q21 ?k21 ?a22 ?l22 ?q22 ?k22 ?a23 ?l23 ?q23 ?k23 ?a24 ?l24 ?q24 ?k24 ?z_bool ?z_isinstance ?z_int ?z_len ?z_sum ?z_enumerate ?z_abs ?z_tuple ?z_sorted ?z_ValueError ?z_list ?z_range ?z_zip ?z_all ?z_repr ?g_CARDS_MANY ?g_MOST_PLAYERS ?er ?tL__law_swap_word ?uL__law_swap_word ?rL__law_swap_word ?tL__law_holder_word ?uL__law_holder_word ?rL__law_holder_word ?nL
    (case a0 => k_is)
    (case l0 => k_is)
    (case q0 => k_is)
    (case k0 => k_is)
    (case a1 => k_is)
    (case l1 => k_is)
    (case q1 => k_is)
    (case k1 => k_is)
    (case a2 => k_is)
    (case l2 => k_is)
    (case q2 => k_is)
    (case k2 => k_is)
    (case a3 => k_is)
    (case l3 => k_is)
    (case q3 => k_is)
    (case k3 => k_is)
    (case a4 => k_is)
    (case l4 => k_is)
    (case q4 => k_is)
    (case k4 => k_is)
    (case a5 => k_is)
    (case l5 => k_is)
    (case q5 => k_is)
    (case k5 => k_is)
    (case a6 => k_is)
    (case l6 => k_is)
    (case q6 => k_is)
    (case k6 => k_is)
    (case a7 => k_is)
    (case l7 => k_is)
    (case q7 => k_is)
    (case k7 => k_is)
    (case a8 => k_is)
    (case l8 => k_is)
    (case q8 => k_is)
    (case k8 => k_is)
    (case a9 => k_is)
    (case l9 => k_is)
    (case q9 => k_is)
    (case k9 => k_is)
    (case a10 => k_is)
    (case l10 => k_is)
    (case q10 => k_is)
    (case k10 => k_is)
    (case a11 => k_is)
    (case l11 => k_is)
    (case q11 => k_is)
    (case k11 => k_is)
    (case a12 => k_is)
    (case l12 => k_is)
    (case q12 => k_is)
    (case k12 => k_is)
    (case a13 => k_is)
    (case l13 => k_is)
    (case q13 => k_is)
    (case k13 => k_is)
    (case a14 => k_is)
    (case l14 => k_is)
    (case q14 => k_is)
    (case k14 => k_is)
    (case a15 => k_is)
    (case l15 => k_is)
    (case q15 => k_is)
    (case k15 => k_is)
    (case a16 => k_is)
    (case l16 => k_is)
    (case q16 => k_is)
    (case k16 => k_is)
    (case a17 => k_is)
    (case l17 => k_is)
    (case q17 => k_is)
    (case k17 => k_is)
    (case a18 => k_is)
    (case l18 => k_is)
    (case q18 => k_is)
    (case k18 => k_is)
    (case a19 => k_is)
    (case l19 => k_is)
    (case q19 => k_is)
    (case k19 => k_is)
    (case a20 => k_is)
    (case l20 => k_is)
    (case q20 => k_is)
    (case k20 => k_is)
    (case a21 => k_is)
    (case l21 => k_is)
    (case q21 => k_is)
    (case k21 => k_is)
    (case a22 => k_is)
    (case l22 => k_is)
    (case q22 => k_is)
    (case k22 => k_is)
    (case a23 => k_is)
    (case l23 => k_is)
    (case q23 => k_is)
    (case k23 => k_is)
    (case a24 => k_is)
    (case l24 => k_is)
    (case q24 => k_is)
    (case k24 => k_is)
    (case z_bool => k_is)
    (case z_isinstance => k_is)
    (case z_int => k_is)
    (case z_len => k_is)
    (case z_sum => k_is)
    (case z_enumerate => k_is)
    (case z_abs => k_is)
    (case z_tuple => k_is)
    (case z_sorted => k_is)
    (case z_ValueError => k_is)
    (case z_list => k_is)
    (case z_range => k_is)
    (case z_zip => k_is)
    (case z_all => k_is)
    (case z_repr => k_is)
    (case g_CARDS_MANY => k_is)
    (case g_MOST_PLAYERS => k_is)
    (case er => kernel_rfl)
    (case tL__law_swap_word => kernel_rfl)
    (case uL__law_swap_word => kernel_rfl)
    (case rL__law_swap_word => kernel_rfl)
    (case tL__law_holder_word => kernel_rfl)
    (case uL__law_holder_word => kernel_rfl)
    (case rL__law_holder_word => kernel_rfl)
    (case nL => kernel_rfl)
