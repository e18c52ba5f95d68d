import PyProof.Rows.All
import Wide.All
import OpenK.AllK
import Wide.FinOn
import HandS.ForMost
import HandS.TupAny
import KE.DataCmp
import KE.DataEq
import KE.SortData
import KE.DataMinMax
import HandS.IsInst
import HandS.Style
import HandS.Walk
import HandS.Zip
import KE.GoesZip
import KE.GoesEnum
import KE.KDictZip
import KE.KDictItemsList
import HandS.ListItems
import PyProof.Claim2Refuses
import HandS.Conv
import PySem.Challenge.RW_namesfit_k07_open_stands_and_what_they_h
set_option Elab.async false
set_option linter.all false
set_option maxRecDepth 100000
set_option maxHeartbeats 4000000
set_option autoImplicit false
set_option Elab.async false
namespace L2.DL
open PySem PySem.Spec PyProof.Rows

/-! ## data, results, environments -/
abbrev D := PyData
inductive Err where
  | stuck
abbrev Res := Except Err
abbrev stuck {α : Type} : Res α := .error .stuck
/-- what a slot holds: data, or a list of the def's own (true: lent by the caller) -/
inductive Sl where
  | dat (d : D)
  | own (b : Bool) (xs : List D)
abbrev DEnv := List (Option Sl)

/-! ## a value stands for data; no list or tuple on the way stands at an address of M -/
mutual
inductive Rp (K : PySem.W.Frag) (M : Addr → Prop) (H : Hp) : V → D → Prop
  | non : Rp K M H .non .none
  | bl (b : Bool) : Rp K M H (.bl b) (.bool b)
  | int (i : Int) : Rp K M H (.int i) (.int i)
  | str (x : Str) : Rp K M H (.str x) (.str x)
  | lst {a : Addr} {xs : List V} {ds : List D} : ¬ M a → SqL K H a xs → RpA K M H xs ds → Rp K M H (.ref a) (.list ds)
  | tup {a : Addr} {xs : List V} {ds : List D} : ¬ M a → SqT K H a xs → RpA K M H xs ds → Rp K M H (.ref a) (.tuple ds)
inductive RpA (K : PySem.W.Frag) (M : Addr → Prop) (H : Hp) : List V → List D → Prop
  | nil : RpA K M H [] []
  | cons {v : V} {vs : List V} {d : D} {ds : List D} : Rp K M H v d → RpA K M H vs ds → RpA K M H (v :: vs) (d :: ds)
end

def Keeps (M : Addr → Prop) (H H' : Hp) : Prop := ∀ a o, ¬ M a → H a = some o → H' a = some o
theorem sqL_keep {K : PySem.W.Frag} {H H' : Hp} {a : Addr} {xs : List V} (k : ∀ o, H a = some o → H' a = some o) (h : SqL K H a xs) : SqL K H' a xs := by
  rcases h with (h | ⟨o, h⟩) | h
  · exact .inl (.inl (k _ h))
  · exact .inl (.inr ⟨o, k _ h⟩)
  · exact .inr h
theorem rd_keep {H H' : Hp} {a : Addr} {u : HO} (k : ∀ o, H a = some o → H' a = some o) (h : Rd H a u) : Rd H' a u := by
  rcases h with h | ⟨o, h⟩
  · exact .inl (k _ h)
  · exact .inr ⟨o, k _ h⟩
theorem sqT_keep {K : PySem.W.Frag} {H H' : Hp} {a : Addr} {xs : List V} (k : ∀ o, H a = some o → H' a = some o) (h : SqT K H a xs) : SqT K H' a xs := by
  rcases h with (h | ⟨o, h⟩) | h
  · exact .inl (.inl (k _ h))
  · exact .inl (.inr ⟨o, k _ h⟩)
  · exact .inr h
section
variable {K : PySem.W.Frag} {M M' : Addr → Prop} {H H' : Hp}
mutual
theorem Rp.mono (hM : ∀ a, M' a → M a) (k : Keeps M H H') : ∀ {v : V} (d : D), Rp K M H v d → Rp K M' H' v d
  | _, .none, h => by cases h; exact .non
  | _, .bool b, h => by cases h; exact .bl b
  | _, .int i, h => by cases h; exact .int i
  | _, .str x, h => by cases h; exact .str x
  | _, .list ds, h => by
    cases h with
    | lst n q r => exact .lst (fun z => n (hM _ z)) (sqL_keep (fun o => k _ o n) q) (RpA.mono hM k ds r)
  | _, .tuple ds, h => by
    cases h with
    | tup n q r => exact .tup (fun z => n (hM _ z)) (sqT_keep (fun o => k _ o n) q) (RpA.mono hM k ds r)
  | _, .dict _, h => by cases h
theorem RpA.mono (hM : ∀ a, M' a → M a) (k : Keeps M H H') : ∀ {vs : List V} (ds : List D), RpA K M H vs ds → RpA K M' H' vs ds
  | _, [], h => by cases h; exact .nil
  | _, d :: ds, h => by
    cases h with
    | cons h1 h2 => exact .cons (Rp.mono hM k d h1) (RpA.mono hM k ds h2)
end
theorem Keeps.same (s : Same H H') : Keeps M H H' := fun a o _ e => s a o e
theorem Rp.same {v : V} {d : D} (h : Rp K M H v d) (s : Same H H') : Rp K M H' v d := h.mono (fun _ z => z) (Keeps.same s)
theorem RpA.same {vs : List V} {ds : List D} (h : RpA K M H vs ds) (s : Same H H') : RpA K M H' vs ds := h.mono (fun _ z => z) (Keeps.same s)
theorem Rp.weak {v : V} {d : D} (h : Rp K M H v d) (hM : ∀ a, M' a → M a) : Rp K M' H v d := h.mono hM fun _ _ _ e => e
theorem RpA.weak {vs : List V} {ds : List D} (h : RpA K M H vs ds) (hM : ∀ a, M' a → M a) : RpA K M' H vs ds := h.mono hM fun _ _ _ e => e
theorem RpA.len : ∀ {vs : List V} {ds : List D}, RpA K M H vs ds → vs.length = ds.length
  | _, _, .nil => rfl
  | _, _, .cons _ t => congrArg (· + 1) t.len
theorem RpA.get : ∀ {vs : List V} {ds : List D} {i : Nat} {v : V}, RpA K M H vs ds → vs[i]? = some v → ∃ d, ds[i]? = some d ∧ Rp K M H v d
  | _, _, _, _, .nil, e => by simp at e
  | _, _, 0, _, .cons r _, e => by simp at e; subst e; exact ⟨_, rfl, r⟩
  | _, _, i + 1, _, .cons _ t, e => by
    obtain ⟨d, h1, h2⟩ := RpA.get (i := i) t (by simpa using e)
    exact ⟨d, by simpa using h1, h2⟩
theorem RpA.getD : ∀ {vs : List V} {ds : List D} {i : Nat} {d : D}, RpA K M H vs ds → ds[i]? = some d → ∃ v, vs[i]? = some v ∧ Rp K M H v d
  | _, _, _, _, .nil, e => by simp at e
  | _, _, 0, _, .cons r _, e => by simp at e; subst e; exact ⟨_, rfl, r⟩
  | _, _, i + 1, _, .cons _ t, e => by
    obtain ⟨d, h1, h2⟩ := RpA.getD (i := i) t (by simpa using e)
    exact ⟨d, by simpa using h1, h2⟩
theorem RpA.append : ∀ {vs ws : List V} {ds es : List D}, RpA K M H vs ds → RpA K M H ws es → RpA K M H (vs ++ ws) (ds ++ es)
  | _, _, _, _, .nil, q => q
  | _, _, _, _, .cons r t, q => .cons r (t.append q)
theorem RpA.take : ∀ {vs : List V} {ds : List D} (n : Nat), RpA K M H vs ds → RpA K M H (vs.take n) (ds.take n)
  | _, _, 0, _ => .nil
  | _, _, _ + 1, .nil => .nil
  | _, _, n + 1, .cons r t => .cons r (t.take n)
theorem RpA.drop : ∀ {vs : List V} {ds : List D} (n : Nat), RpA K M H vs ds → RpA K M H (vs.drop n) (ds.drop n)
  | _, _, 0, r => r
  | _, _, _ + 1, .nil => .nil
  | _, _, n + 1, .cons _ t => t.drop n
theorem RpA.set {v : V} {d : D} (r : Rp K M H v d) : ∀ {vs : List V} {ds : List D} (i : Nat), RpA K M H vs ds → RpA K M H (vs.set i v) (ds.set i d)
  | _, _, _, .nil => .nil
  | _, _, 0, .cons _ t => .cons r t
  | _, _, i + 1, .cons q t => .cons q (RpA.set r i t)
theorem RpA.one {v : V} {d : D} (r : Rp K M H v d) : RpA K M H [v] [d] := .cons r .nil
theorem Rp.none_inv {v : V} (h : Rp K M H v .none) : v = .non := by cases h; rfl
theorem Rp.bool_inv {v : V} {b : Bool} (h : Rp K M H v (.bool b)) : v = .bl b := by cases h; rfl
theorem Rp.int_inv {v : V} {i : Int} (h : Rp K M H v (.int i)) : v = .int i := by cases h; rfl
theorem Rp.str_inv {v : V} {x : Str} (h : Rp K M H v (.str x)) : v = .str x := by cases h; rfl
theorem Rp.list_inv {v : V} {ds : List D} (h : Rp K M H v (.list ds)) : ∃ a xs, v = .ref a ∧ ¬ M a ∧ SqL K H a xs ∧ RpA K M H xs ds := by
  cases h with
  | lst n q r => exact ⟨_, _, rfl, n, q, r⟩
theorem Rp.tup_inv {v : V} {ds : List D} (h : Rp K M H v (.tuple ds)) : ∃ a xs, v = .ref a ∧ ¬ M a ∧ SqT K H a xs ∧ RpA K M H xs ds := by
  cases h with
  | tup n q r => exact ⟨_, _, rfl, n, q, r⟩
mutual
/-- data for HandS's own relation -/
theorem Rp.dp : ∀ {v : V} (d : D), Rp K M H v d → Dp K H v d
  | _, .none, h => by cases h; exact .non
  | _, .bool b, h => by cases h; exact .bl b
  | _, .int i, h => by cases h; exact .int i
  | _, .str x, h => by cases h; exact .str x
  | _, .list ds, h => by
    cases h with
    | lst _ q r => exact .lst q (RpA.dp ds r)
  | _, .tuple ds, h => by
    cases h with
    | tup _ q r => exact .tup q (RpA.dp ds r)
  | _, .dict _, h => by cases h
theorem RpA.dp : ∀ {vs : List V} (ds : List D), RpA K M H vs ds → DpAll K H vs ds
  | _, [], h => by cases h; exact .nil
  | _, d :: ds, h => by
    cases h with
    | cons h1 h2 => exact .cons (Rp.dp d h1) (RpA.dp ds h2)
end
mutual
/-- an address that stands nowhere is on no way -/
theorem Rp.off {a : Addr} (hK : K.lookup a = none) (hH : H a = none) : ∀ {v : V} (d : D), Rp K M H v d → Rp K (fun b => M b ∨ b = a) H v d
  | _, .none, h => by cases h; exact .non
  | _, .bool b, h => by cases h; exact .bl b
  | _, .int i, h => by cases h; exact .int i
  | _, .str x, h => by cases h; exact .str x
  | _, .list ds, h => by
    cases h with
    | lst n q r =>
      refine .lst (fun z => z.elim n fun e => ?_) q (RpA.off hK hH ds r)
      subst e
      rcases q with (q | ⟨o, q⟩) | ⟨o, _, _, q, _⟩
      · rw [hH] at q; cases q
      · rw [hH] at q; cases q
      · rw [hK] at q; cases q
  | _, .tuple ds, h => by
    cases h with
    | tup n q r =>
      refine .tup (fun z => z.elim n fun e => ?_) q (RpA.off hK hH ds r)
      subst e
      rcases q with (q | ⟨o, q⟩) | ⟨o, _, _, q, _⟩
      · rw [hH] at q; cases q
      · rw [hH] at q; cases q
      · rw [hK] at q; cases q
  | _, .dict _, h => by cases h
theorem RpA.off {a : Addr} (hK : K.lookup a = none) (hH : H a = none) : ∀ {vs : List V} (ds : List D), RpA K M H vs ds → RpA K (fun b => M b ∨ b = a) H vs ds
  | _, [], h => by cases h; exact .nil
  | _, d :: ds, h => by
    cases h with
    | cons h1 h2 => exact .cons (Rp.off hK hH d h1) (RpA.off hK hH ds h2)
end
end

/-! ## the written part is not tracked -/
def KF (K : PySem.W.Frag) (H : Hp) : Prop := ∀ a o, K.lookup a = some o → H a = none
theorem kf_of {X : Cx} {pins : List (Addr × Obj)} {σ : St} {H : Hp} {s : Shared} (I : Inv X pins σ H s) : KF X.K H := fun a o e => (I.bs a o (I.ok.mod.kin a o e)).2
theorem KF.free {K : PySem.W.Frag} {H : Hp} (k : KF K H) {a : Addr} {o : HO} (h : H a = some o) : K.lookup a = none := by
  cases e : K.lookup a with
  | none => rfl
  | some u =>
    rw [k a u e] at h
    cases h

/-! ## how the slots and the heap stand for an environment -/
structure Gh where
  M : Addr → Prop
  B : Addr → Prop
  fx : Addr → HO → Prop
  hd : V → D → Prop
def OwnAt (ρ : DEnv) (σ : St) (i : Nat) (a : Addr) : Prop := ∃ (b : Bool) (xs : List D), ρ[i]? = some (some (Sl.own b xs)) ∧ σ[i]? = some (some (V.ref a))
def MM (G : Gh) (ρ : DEnv) (σ : St) (a : Addr) : Prop := G.M a ∨ ∃ i, OwnAt ρ σ i a

structure Rel (K : PySem.W.Frag) (G : Gh) (ρ : DEnv) (σ : St) (H : Hp) : Prop where
  len : ρ.length = σ.length
  kf : KF K H
  dom : ∀ a, G.M a → H a ≠ none
  dat : ∀ (i : Nat) (d : D), ρ[i]? = some (some (Sl.dat d)) → ∃ v, σ[i]? = some (some v) ∧ Rp K (MM G ρ σ) H v d
  own : ∀ (i : Nat) (b : Bool) (xs : List D), ρ[i]? = some (some (Sl.own b xs)) → ∃ a vs, σ[i]? = some (some (V.ref a)) ∧ H a = some (.lst vs) ∧ RpA K (MM G ρ σ) H vs xs ∧ ¬ G.M a ∧ (b = true → G.B a) ∧ ∀ o, ¬ G.fx a o
  sep : ∀ i j a, OwnAt ρ σ i a → OwnAt ρ σ j a → i = j
  held : ∀ v d, G.hd v d → Rp K (MM G ρ σ) H v d
  keep : ∀ a o, G.fx a o → H a = some o

/-- more values are held -/
def Gh.hold (G : Gh) (v : V) (d : D) : Gh := { G with hd := fun x e => G.hd x e ∨ (x = v ∧ e = d) }
/-- more addresses are kept away from -/
def Gh.add (G : Gh) (a : Addr) : Gh := { G with M := fun b => G.M b ∨ b = a }

section
variable {K : PySem.W.Frag} {G : Gh} {ρ : DEnv} {σ : St} {H H' : Hp} {v : V} {d : D} {a : Addr}
theorem Rel.nown (R : Rel K G ρ σ H) {p : Addr} (hp : H p = none) : ¬ MM G ρ σ p := by
  rintro (z | ⟨i, b, xs, h1, h2⟩)
  · exact R.dom p z hp
  · obtain ⟨a, vs, e, ha, _⟩ := R.own i b xs h1
    rw [h2] at e
    cases e
    rw [hp] at ha
    cases ha
theorem Rel.same (R : Rel K G ρ σ H) (kf : KF K H') (s : Same H H') : Rel K G ρ σ H' := by
  refine ⟨R.len, kf, fun a z e => ?_, fun i d h => ?_, fun i b xs h => ?_, R.sep, fun v d h => (R.held v d h).same s, fun a o h => s a o (R.keep a o h)⟩
  · cases q : H a with
    | none => exact R.dom a z q
    | some o => rw [s a o q] at e; cases e
  · obtain ⟨v, h1, h2⟩ := R.dat i d h
    exact ⟨v, h1, h2.same s⟩
  · obtain ⟨a, vs, h1, h2, h3, h4, h5, h6⟩ := R.own i b xs h
    exact ⟨a, vs, h1, s _ _ h2, h3.same s, h4, h5, h6⟩
theorem Rel.hold (R : Rel K G ρ σ H) (h : Rp K (MM G ρ σ) H v d) : Rel K (G.hold v d) ρ σ H :=
  ⟨R.len, R.kf, R.dom, R.dat, R.own, R.sep, fun x e z => by
    rcases z with z | ⟨rfl, rfl⟩
    · exact R.held x e z
    · exact h, R.keep⟩
theorem Rel.unhold (R : Rel K (G.hold v d) ρ σ H) : Rel K G ρ σ H ∧ Rp K (MM G ρ σ) H v d :=
  ⟨⟨R.len, R.kf, R.dom, R.dat, R.own, R.sep, fun x e z => R.held x e (.inl z), R.keep⟩, R.held v d (.inr ⟨rfl, rfl⟩)⟩
theorem Rel.unadd (R : Rel K (G.add a) ρ σ H) : Rel K G ρ σ H := by
  have w : ∀ b, MM G ρ σ b → MM (G.add a) ρ σ b := fun b z => z.imp .inl id
  refine ⟨R.len, R.kf, fun b z => R.dom b (.inl z), fun i d h => ?_, fun i b xs h => ?_, R.sep, fun x e z => (R.held x e z).weak w, R.keep⟩
  · obtain ⟨v, h1, h2⟩ := R.dat i d h
    exact ⟨v, h1, h2.weak w⟩
  · obtain ⟨c, vs, h1, h2, h3, h4, h5, h6⟩ := R.own i b xs h
    exact ⟨c, vs, h1, h2, h3.weak w, fun z => h4 (.inl z), h5, h6⟩
theorem mm_add {b : Addr} : MM (G.add a) ρ σ b ↔ (MM G ρ σ b ∨ b = a) := by
  constructor
  · rintro ((z | z) | z)
    · exact .inl (.inl z)
    · exact .inr z
    · exact .inl (.inr z)
  · rintro ((z | z) | z)
    · exact .inl (.inl z)
    · exact .inr z
    · exact .inl (.inr z)
/-- a fresh object is laid: all else keeps away from it -/
theorem Rel.fresh (R : Rel K G ρ σ H) {o : HO} (hp : H a = none) (kf : KF K (upd H a o)) : Rel K (G.add a) ρ σ (upd H a o) := by
  have s : Same H (upd H a o) := fun b u e => by rw [upd_ne (ne_of_none e hp)]; exact e
  have hK : K.lookup a = none := kf.free upd_same
  have w : ∀ b, MM (G.add a) ρ σ b → (MM G ρ σ b ∨ b = a) := fun b z => mm_add.mp z
  have up : ∀ {x : V} {e : D}, Rp K (MM G ρ σ) H x e → Rp K (MM (G.add a) ρ σ) (upd H a o) x e := fun {x e} h => ((h.off hK hp).weak w).same s
  have upA : ∀ {x : List V} {e : List D}, RpA K (MM G ρ σ) H x e → RpA K (MM (G.add a) ρ σ) (upd H a o) x e := fun {x e} h => ((h.off hK hp).weak w).same s
  refine ⟨R.len, kf, fun b z => ?_, fun i d h => ?_, fun i b xs h => ?_, R.sep, fun x e z => up (R.held x e z), fun b u h => s b u (R.keep b u h)⟩
  · rcases z with z | z
    · cases q : H b with
      | none => exact absurd q (R.dom b z)
      | some u => rw [s b u q]; exact fun e => by cases e
    · subst z; rw [upd_same]; exact fun e => by cases e
  · obtain ⟨v, h1, h2⟩ := R.dat i d h
    exact ⟨v, h1, up h2⟩
  · obtain ⟨c, vs, h1, h2, h3, h4, h5, h6⟩ := R.own i b xs h
    refine ⟨c, vs, h1, s _ _ h2, upA h3, fun z => z.elim h4 fun e => ?_, h5, h6⟩
    subst e
    rw [hp] at h2
    cases h2
theorem set_get {α : Type} {l : List α} {i j : Nat} {x y : α} (h : (l.set i x)[j]? = some y) : (j = i ∧ y = x) ∨ (j ≠ i ∧ l[j]? = some y) := by
  by_cases e : i = j
  · subst e
    by_cases hl : i < l.length
    · rw [List.getElem?_set_self hl] at h
      exact .inl ⟨rfl, (Option.some.inj h).symm⟩
    · rw [List.getElem?_eq_none (by simpa using hl)] at h
      cases h
  · rw [List.getElem?_set_ne e] at h
    exact .inr ⟨fun z => e z.symm, h⟩
theorem ownAt_set {i j : Nat} {s : Option Sl} {x : Option V} (hs : ∀ b xs, s ≠ some (Sl.own b xs)) (h : OwnAt (ρ.set i s) (σ.set i x) j a) : j ≠ i ∧ OwnAt ρ σ j a := by
  obtain ⟨b, xs, h1, h2⟩ := h
  rcases set_get h1 with ⟨_, e⟩ | ⟨ne, e⟩
  · exact absurd e.symm (hs b xs)
  · rw [List.getElem?_set_ne (fun z => ne z.symm)] at h2
    exact ⟨ne, b, xs, e, h2⟩
/-- a slot takes data -/
theorem Rel.set (R : Rel K G ρ σ H) {i : Nat} (hi : i < ρ.length) (h : Rp K (MM G ρ σ) H v d) : Rel K G (ρ.set i (some (Sl.dat d))) (σ.set i (some v)) H := by
  have w : ∀ b, MM G (ρ.set i (some (Sl.dat d))) (σ.set i (some v)) b → MM G ρ σ b := fun b z => z.imp id fun ⟨j, q⟩ => ⟨j, (ownAt_set (fun _ _ z => by cases z) q).2⟩
  refine ⟨by rw [List.length_set, List.length_set]; exact R.len, R.kf, R.dom, fun j e hj => ?_, fun j b xs hj => ?_, fun j k c h1 h2 => R.sep j k c (ownAt_set (fun _ _ z => by cases z) h1).2 (ownAt_set (fun _ _ z => by cases z) h2).2, fun x e z => (R.held x e z).weak w, R.keep⟩
  · rcases set_get hj with ⟨rfl, e'⟩ | ⟨ne, e'⟩
    · cases e'
      exact ⟨v, by rw [List.getElem?_set_self (by rw [← R.len]; exact hi)], h.weak w⟩
    · obtain ⟨u, h1, h2⟩ := R.dat j e e'
      exact ⟨u, by rw [List.getElem?_set_ne fun z => ne z.symm]; exact h1, h2.weak w⟩
  · rcases set_get hj with ⟨_, e'⟩ | ⟨ne, e'⟩
    · cases e'
    · obtain ⟨c, vs, h1, h2, h3, h4⟩ := R.own j b xs e'
      exact ⟨c, vs, by rw [List.getElem?_set_ne fun z => ne z.symm]; exact h1, h2, h3.weak w, h4⟩
/-- a slot is emptied -/
theorem Rel.clear (R : Rel K G ρ σ H) {i : Nat} {x : Option V} : Rel K G (ρ.set i none) (σ.set i x) H := by
  have w : ∀ b, MM G (ρ.set i none) (σ.set i x) b → MM G ρ σ b := fun b z => z.imp id fun ⟨j, q⟩ => ⟨j, (ownAt_set (fun _ _ z => by cases z) q).2⟩
  refine ⟨by rw [List.length_set, List.length_set]; exact R.len, R.kf, R.dom, fun j e hj => ?_, fun j b xs hj => ?_, fun j k c h1 h2 => R.sep j k c (ownAt_set (fun _ _ z => by cases z) h1).2 (ownAt_set (fun _ _ z => by cases z) h2).2, fun x e z => (R.held x e z).weak w, R.keep⟩
  · rcases set_get hj with ⟨_, e'⟩ | ⟨ne, e'⟩
    · cases e'
    · obtain ⟨u, h1, h2⟩ := R.dat j e e'
      exact ⟨u, by rw [List.getElem?_set_ne fun z => ne z.symm]; exact h1, h2.weak w⟩
  · rcases set_get hj with ⟨_, e'⟩ | ⟨ne, e'⟩
    · cases e'
    · obtain ⟨c, vs, h1, h2, h3, h4⟩ := R.own j b xs e'
      exact ⟨c, vs, by rw [List.getElem?_set_ne fun z => ne z.symm]; exact h1, h2, h3.weak w, h4⟩
/-- a slot takes a list of the def's own -/
theorem Rel.setOwn (R : Rel K (G.add a) ρ σ H) {i : Nat} {vs : List V} {xs : List D} (hi : i < ρ.length) (ha : H a = some (.lst vs)) (hx : RpA K (MM (G.add a) ρ σ) H vs xs) (hM : ¬ MM G ρ σ a) (hf : ∀ o, ¬ G.fx a o) :
    Rel K G (ρ.set i (some (Sl.own false xs))) (σ.set i (some (.ref a))) H := by
  have spl : ∀ {j : Nat} {c : Addr}, OwnAt (ρ.set i (some (Sl.own false xs))) (σ.set i (some (.ref a))) j c → (j = i ∧ c = a) ∨ (j ≠ i ∧ OwnAt ρ σ j c) := fun {j c} q => by
    obtain ⟨b, ys, h1, h2⟩ := q
    rcases set_get h1 with ⟨rfl, _⟩ | ⟨ne, e⟩
    · rw [List.getElem?_set_self (by rw [← R.len]; exact hi)] at h2
      cases h2
      exact .inl ⟨rfl, rfl⟩
    · rw [List.getElem?_set_ne (fun z => ne z.symm)] at h2
      exact .inr ⟨ne, b, ys, e, h2⟩
  have w : ∀ b, MM G (ρ.set i (some (Sl.own false xs))) (σ.set i (some (.ref a))) b → MM (G.add a) ρ σ b := fun b z => by
    rcases z with z | ⟨j, q⟩
    · exact .inl (.inl z)
    · rcases spl q with ⟨_, rfl⟩ | ⟨_, q⟩
      · exact .inl (.inr rfl)
      · exact .inr ⟨j, q⟩
  refine ⟨by rw [List.length_set, List.length_set]; exact R.len, R.kf, fun b z => R.dom b (.inl z), fun j e hj => ?_, fun j b ys hj => ?_, fun j k c h1 h2 => ?_, fun x e z => (R.held x e z).weak w, R.keep⟩
  · rcases set_get hj with ⟨_, e'⟩ | ⟨ne, e'⟩
    · cases e'
    · obtain ⟨u, h1, h2⟩ := R.dat j e e'
      exact ⟨u, by rw [List.getElem?_set_ne fun z => ne z.symm]; exact h1, h2.weak w⟩
  · rcases set_get hj with ⟨rfl, e'⟩ | ⟨ne, e'⟩
    · cases e'
      exact ⟨a, vs, by rw [List.getElem?_set_self (by rw [← R.len]; exact hi)], ha, hx.weak w, fun z => hM (.inl z), fun z => Bool.noConfusion z, hf⟩
    · obtain ⟨c, us, h1, h2, h3, h4, h5⟩ := R.own j b ys e'
      exact ⟨c, us, by rw [List.getElem?_set_ne fun z => ne z.symm]; exact h1, h2, h3.weak w, fun z => h4 (.inl z), h5⟩
  · rcases spl h1 with ⟨rfl, e1⟩ | ⟨n1, q1⟩
    · rcases spl h2 with ⟨rfl, _⟩ | ⟨_, q2⟩
      · rfl
      · subst e1
        exact absurd (.inr ⟨k, q2⟩) hM
    · rcases spl h2 with ⟨rfl, e2⟩ | ⟨_, q2⟩
      · subst e2
        exact absurd (.inr ⟨j, q1⟩) hM
      · exact R.sep j k c q1 q2
/-- a list of the def's own is changed in place -/
theorem Rel.write (R : Rel K G ρ σ H) {i : Nat} {b : Bool} {xs xs' : List D} {vs' : List V} (hi : ρ[i]? = some (some (Sl.own b xs))) (hs : σ[i]? = some (some (V.ref a))) (kf : KF K (upd H a (.lst vs')))
    (hx : RpA K (MM G ρ σ) H vs' xs') : Rel K G (ρ.set i (some (Sl.own b xs'))) σ (upd H a (.lst vs')) := by
  have oa : OwnAt ρ σ i a := ⟨b, xs, hi, hs⟩
  have il : i < ρ.length := (List.getElem?_eq_some_iff.mp hi).1
  have iff : ∀ j c, OwnAt (ρ.set i (some (Sl.own b xs'))) σ j c ↔ OwnAt ρ σ j c := fun j c => by
    constructor
    · rintro ⟨b2, ys, h1, h2⟩
      rcases set_get h1 with ⟨rfl, _⟩ | ⟨ne, e⟩
      · exact ⟨b, xs, hi, h2⟩
      · exact ⟨b2, ys, e, h2⟩
    · rintro ⟨b2, ys, h1, h2⟩
      by_cases e : i = j
      · subst e
        exact ⟨b, xs', by rw [List.getElem?_set_self il], h2⟩
      · exact ⟨b2, ys, by rw [List.getElem?_set_ne e]; exact h1, h2⟩
  have w : ∀ c, MM G (ρ.set i (some (Sl.own b xs'))) σ c → MM G ρ σ c := fun c z => z.imp id fun ⟨j, q⟩ => ⟨j, (iff j c).mp q⟩
  have kp : Keeps (MM G ρ σ) H (upd H a (.lst vs')) := fun c o n e => by
    rw [upd_ne (fun z => n (.inr ⟨i, by rw [z]; exact oa⟩))]
    exact e
  obtain ⟨a', us, ha1, ha2, ha3, ha4, ha5, ha6⟩ := R.own i b xs hi
  rw [hs] at ha1
  cases ha1
  refine ⟨by rw [List.length_set]; exact R.len, kf, fun c z e => ?_, fun j e hj => ?_, fun j b2 ys hj => ?_, fun j k c h1 h2 => R.sep j k c ((iff _ _).mp h1) ((iff _ _).mp h2), fun x e z => (R.held x e z).mono w kp, fun c o z => ?_⟩
  · by_cases q : c = a
    · subst q; rw [upd_same] at e; cases e
    · rw [upd_ne q] at e; exact R.dom c z e
  · rcases set_get hj with ⟨_, e'⟩ | ⟨ne, e'⟩
    · cases e'
    · obtain ⟨u, h1, h2⟩ := R.dat j e e'
      exact ⟨u, h1, h2.mono w kp⟩
  · rcases set_get hj with ⟨rfl, e'⟩ | ⟨ne, e'⟩
    · cases e'
      exact ⟨a, vs', hs, upd_same, hx.mono w kp, ha4, ha5, ha6⟩
    · obtain ⟨c, us', h1, h2, h3, h4⟩ := R.own j b2 ys e'
      refine ⟨c, us', h1, ?_, h3.mono w kp, h4⟩
      rw [upd_ne]
      · exact h2
      · intro z
        subst z
        exact ne (R.sep j i c ⟨b2, ys, e', h1⟩ oa)
  · rw [upd_ne]
    · exact R.keep c o z
    · intro q
      subst q
      exact ha6 o z
/-- a list of the def's own becomes data -/
theorem Rel.freeze (R : Rel K G ρ σ H) {i : Nat} {b : Bool} {xs : List D} (hi : ρ[i]? = some (some (Sl.own b xs))) : Rel K G (ρ.set i (some (Sl.dat (.list xs)))) σ H := by
  have il : i < ρ.length := (List.getElem?_eq_some_iff.mp hi).1
  obtain ⟨a, us, ha1, ha2, ha3, ha4, ha5, ha6⟩ := R.own i b xs hi
  have ow : ∀ j c, OwnAt (ρ.set i (some (Sl.dat (.list xs)))) σ j c → j ≠ i ∧ OwnAt ρ σ j c := fun j c q => by
    obtain ⟨b2, ys, h1, h2⟩ := q
    rcases set_get h1 with ⟨_, e⟩ | ⟨ne, e⟩
    · cases e
    · exact ⟨ne, b2, ys, e, h2⟩
  have w : ∀ c, MM G (ρ.set i (some (Sl.dat (.list xs)))) σ c → MM G ρ σ c := fun c z => z.imp id fun ⟨j, q⟩ => ⟨j, (ow j c q).2⟩
  refine ⟨by rw [List.length_set]; exact R.len, R.kf, R.dom, fun j e hj => ?_, fun j b2 ys hj => ?_, fun j k c h1 h2 => R.sep j k c (ow _ _ h1).2 (ow _ _ h2).2, fun x e z => (R.held x e z).weak w, R.keep⟩
  · rcases set_get hj with ⟨rfl, e'⟩ | ⟨ne, e'⟩
    · cases e'
      refine ⟨.ref a, ha1, .lst ?_ (SqL.of ha2) (ha3.weak w)⟩
      rintro (z | ⟨j2, q⟩)
      · exact ha4 z
      · exact (ow j2 a q).1 (R.sep j2 j a (ow j2 a q).2 ⟨b, xs, hi, ha1⟩)
    · obtain ⟨u, h1, h2⟩ := R.dat j e e'
      exact ⟨u, h1, h2.weak w⟩
  · rcases set_get hj with ⟨_, e'⟩ | ⟨ne, e'⟩
    · cases e'
    · obtain ⟨c, us', h1, h2, h3, h4⟩ := R.own j b2 ys e'
      exact ⟨c, us', h1, h2, h3.weak w, h4⟩
end

/-! ## judgements -/
abbrev EvF := DEnv → Res (D × DEnv)
abbrev EvA := DEnv → Res (List D × DEnv)
inductive Ctl where
  | nx | bk | ct
  | rt (d : D)
abbrev EvS := DEnv → Res (Ctl × DEnv)

/-- e gives data -/
def tE (K : PySem.W.Frag) (f : EvF) : TE := fun σ H Q => ∃ G ρ d ρ', Rel K G ρ σ H ∧ f ρ = .ok (d, ρ') ∧ ∀ v H', Rel K G ρ' σ H' → Rp K (MM G ρ' σ) H' v d → Q v H'
/-- e gives a list (or, b, a tuple) that is read at once: it may be one of the def's own -/
def tV (K : PySem.W.Frag) (f : EvF) : TE := fun σ H Q => ∃ G ρ d ρ', Rel K G ρ σ H ∧ f ρ = .ok (d, ρ') ∧
  ∀ a vs H', Rel K G ρ' σ H' → ((∃ xs, d = .list xs ∧ SqL K H' a vs ∧ RpA K (MM G ρ' σ) H' vs xs) ∨ ∃ xs, d = .tuple xs ∧ SqT K H' a vs ∧ RpA K (MM G ρ' σ) H' vs xs) → Q (.ref a) H'
/-- e gives a new list, held by nothing else -/
def tL (K : PySem.W.Frag) (f : EvA) : TE := fun σ H Q => ∃ G ρ xs ρ', Rel K G ρ σ H ∧ f ρ = .ok (xs, ρ') ∧
  ∀ a vs H', Rel K (G.add a) ρ' σ H' → H' a = some (.lst vs) → RpA K (MM (G.add a) ρ' σ) H' vs xs → ¬ MM G ρ' σ a → (∀ o, ¬ G.fx a o) → Q (.ref a) H'
def tA (K : PySem.W.Frag) (f : EvA) : TA := fun σ H Q => ∃ G ρ ds ρ', Rel K G ρ σ H ∧ f ρ = .ok (ds, ρ') ∧ ∀ vs H', Rel K G ρ' σ H' → RpA K (MM G ρ' σ) H' vs ds → Q vs H'
def tTs (K : PySem.W.Frag) (f : EvF) : TT := fun σ H Q => ∃ G ρ b ρ', Rel K G ρ σ H ∧ f ρ = .ok (.bool b, ρ') ∧ ∀ H', Rel K G ρ' σ H' → Q b H'
/-- what a returned value keeps away from: the outer addresses and what was lent -/
def MB (G : Gh) (ρ : DEnv) (σ : St) (a : Addr) : Prop := G.M a ∨ ∃ (i : Nat) (xs : List D), ρ[i]? = some (some (Sl.own true xs)) ∧ σ[i]? = some (some (V.ref a))
def wantS (K : PySem.W.Frag) (E : Ends) (G : Gh) : Ctl → DEnv → Prop
  | .nx, ρ' => ∀ σ' H', Rel K G ρ' σ' H' → E.nx σ' H'
  | .bk, ρ' => ∀ σ' H', Rel K G ρ' σ' H' → E.bk σ' H'
  | .ct, ρ' => ∀ σ' H', Rel K G ρ' σ' H' → E.ct σ' H'
  | .rt d, ρ' => ∀ σ' v H', Rel K G ρ' σ' H' → Rp K (MB G ρ' σ') H' v d → E.rt v H'
def tS (K : PySem.W.Frag) (f : EvS) : TS := fun E σ H => ∃ G ρ c ρ', Rel K G ρ σ H ∧ f ρ = .ok (c, ρ') ∧ wantS K E G c ρ'

section
variable {X : Cx} {e : Expr} {t t' : TE}
/-- a reading is weakened; behind it the written part is known to be untracked -/
theorem PE.by (h : PE X e t) (hh : ∀ σ H Q, t' σ H Q → t σ H fun v H' => KF X.K H' → Q v H') : PE X e t' :=
  ⟨fun pins s σ H Q I hq => thn (h.run pins s σ H _ I (hh σ H Q hq)) fun u s' ⟨v, H', I', r, q⟩ => ⟨v, H', I', r, q (kf_of I')⟩⟩
theorem PT.by {t t' : TT} (h : PT X e t) (hh : ∀ σ H Q, t' σ H Q → t σ H fun v H' => KF X.K H' → Q v H') : PT X e t' :=
  ⟨fun pins s σ H Q I hq => thn (h.run pins s σ H _ I (hh σ H Q hq)) fun u s' ⟨H', I', q⟩ => ⟨H', I', q (kf_of I')⟩⟩
theorem PA.by {es : List Expr} {t t' : TA} (h : PA X es t) (hh : ∀ σ H Q, t' σ H Q → t σ H fun v H' => KF X.K H' → Q v H') : PA X es t' :=
  ⟨fun pos pins s σ H Q I hq => thn (h.run pos pins s σ H _ I (hh σ H Q hq)) fun u s' ⟨v, H', I', r, q⟩ => ⟨v, H', I', r, q (kf_of I')⟩⟩
def kfE (K : PySem.W.Frag) (E : Ends) : Ends := ⟨fun σ H => KF K H → E.nx σ H, fun v H => KF K H → E.rt v H, fun σ H => KF K H → E.bk σ H, fun σ H => KF K H → E.ct σ H⟩
theorem SP.kf {pins : List (Addr × Obj)} {E : Ends} {f : Flow} {s' : Shared} (h : SP X pins (kfE X.K E) f s') : SP X pins E f s' := by
  cases f with
  | next => obtain ⟨σ', H', I, q⟩ := h; exact ⟨σ', H', I, q (kf_of I)⟩
  | brk => obtain ⟨σ', H', I, q⟩ := h; exact ⟨σ', H', I, q (kf_of I)⟩
  | cont => obtain ⟨σ', H', I, q⟩ := h; exact ⟨σ', H', I, q (kf_of I)⟩
  | ret u => obtain ⟨v, σ', H', I, r, q⟩ := h; exact ⟨v, σ', H', I, r, q (kf_of I)⟩
theorem PS.by {st : Stmt} {t t' : TS} (h : PS X st t) (hh : ∀ E σ H, t' E σ H → t (kfE X.K E) σ H) : PS X st t' :=
  ⟨fun pins s σ H E I hq => thn (h.run pins s σ H _ I (hh E σ H hq)) fun u s' q => SP.kf q⟩
theorem PSs.by {st : List Stmt} {t t' : TS} (h : PSs X st t) (hh : ∀ E σ H, t' E σ H → t (kfE X.K E) σ H) : PSs X st t' :=
  ⟨fun pins s σ H E I hq => thn (h.run pins s σ H _ I (hh E σ H hq)) fun u s' q => SP.kf q⟩
end
end L2.DL

namespace L2.DL
open PySem PySem.Spec PyProof.Rows

/-! ## the monad -/
def bnd {α β : Type} (x : Res α) (k : α → Res β) : Res β := match x with | .ok a => k a | .error e => .error e
@[simp] theorem bnd_ok {α β : Type} (a : α) (k : α → Res β) : bnd (.ok a) k = k a := rfl
@[simp] theorem bnd_err {α β : Type} (e : Err) (k : α → Res β) : bnd (.error e) k = .error e := rfl
theorem bnd_inv {α β : Type} {x : Res α} {k : α → Res β} {b : β} (h : bnd x k = .ok b) : ∃ a, x = .ok a ∧ k a = .ok b := by
  cases x with
  | ok a => exact ⟨a, rfl, h⟩
  | error e => cases h

theorem Rel.domM {K : PySem.W.Frag} {G : Gh} {ρ : DEnv} {σ : St} {H : Hp} (R : Rel K G ρ σ H) : ∀ a, MM G ρ σ a → H a ≠ none := fun a z e => R.nown e z
theorem PE.pre {X : Cx} {e : Expr} {t : TE} (h : PE X e t) : PE X e (fun σ H Q => KF X.K H → t σ H Q) := ⟨fun pins s σ H Q I hq => h.run pins s σ H Q I (hq (kf_of I))⟩
theorem PSs.pre {X : Cx} {st : List Stmt} {t : TS} (h : PSs X st t) : PSs X st (fun E σ H => KF X.K H → t E σ H) := ⟨fun pins s σ H E I hq => h.run pins s σ H E I (hq (kf_of I))⟩
theorem PG.pre {X : Cx} {tg : Expr} {t : TG} (h : PG X tg t) : PG X tg (fun v σ H Q => KF X.K H → t v σ H Q) := ⟨fun pins s σ H v u Q I r hq => h.run pins s σ H v u Q I r (hq (kf_of I))⟩

section
variable {X : Cx} {a b c e : Expr} {es : List Expr} {pos : Pos} {fa fb fc f : EvF} {fs : EvA}

/-! ## names and constants -/
def mVar (i : Nat) : EvF := fun ρ => match ρ[i]? with | some (some (Sl.dat d)) => .ok (d, ρ) | _ => stuck
def mC (d : D) : EvF := fun ρ => .ok (d, ρ)
theorem mVar_inv {i : Nat} {ρ ρ' : DEnv} {d : D} (h : mVar i ρ = .ok (d, ρ')) : ρ' = ρ ∧ ρ[i]? = some (some (Sl.dat d)) := by
  unfold mVar at h
  split at h
  · rename_i d' e
    cases h
    exact ⟨rfl, e⟩
  · cases h
theorem de_var (i : Nat) {x : Str} (hN : X.N[i]? = some x := by rfl) (hv : Vis X.env.scope x := by first | exact Or.inl rfl | exact Or.inr (Or.inl rfl) | exact Or.inr (Or.inr rfl)) (hd : (x == ("__debug__" : Str)) = false := by decide)
    (hcd : (x == ("__classdict__" : Str)) = false := by decide) : PE X (.Name x pos) (tE X.K (mVar i)) := by
  refine PE.by (pv i hN hv hd hcd) ?_
  rintro σ H Q ⟨G, ρ, d, ρ', R, hf, hq⟩
  obtain ⟨rfl, h⟩ := mVar_inv hf
  obtain ⟨v, h1, h2⟩ := R.dat i d h
  exact ⟨v, h1, fun _ => hq v H R h2⟩
theorem de_int {i : Int} {j : Nat} : PE X (.Constant (.int i) j pos) (tE X.K (mC (.int i))) := by
  refine PE.by pe_int ?_
  rintro σ H Q ⟨G, ρ, d, ρ', R, hf, hq⟩
  cases hf
  exact fun _ => hq _ H R (.int i)
theorem de_bl {i : Bool} {j : Nat} : PE X (.Constant (.bool i) j pos) (tE X.K (mC (.bool i))) := by
  refine PE.by pe_bl ?_
  rintro σ H Q ⟨G, ρ, d, ρ', R, hf, hq⟩
  cases hf
  exact fun _ => hq _ H R (.bl i)
theorem de_non {j : Nat} : PE X (.Constant .none j pos) (tE X.K (mC .none)) := by
  refine PE.by pe_non ?_
  rintro σ H Q ⟨G, ρ, d, ρ', R, hf, hq⟩
  cases hf
  exact fun _ => hq _ H R .non
theorem de_str {x : Str} {j : Nat} : PE X (.Constant (.str x) j pos) (tE X.K (mC (.str x))) := by
  refine PE.by pe_str ?_
  rintro σ H Q ⟨G, ρ, d, ρ', R, hf, hq⟩
  cases hf
  exact fun _ => hq _ H R (.str x)

/-! ## operators -/
/-- an operation on data -/
def rD (K : PySem.W.Frag) (g : D → D → Res D) : R2 := fun x y H Q => ∃ (M : Addr → Prop) (d e z : D), Rp K M H x d ∧ Rp K M H y e ∧ (∀ a, M a → H a ≠ none) ∧ g d e = .ok z ∧ ∀ v H', Same H H' → Rp K M H' v z → Q v H'
def mOp (g : D → D → Res D) (fa fb : EvF) : EvF := fun ρ => bnd (fa ρ) fun p => bnd (fb p.2) fun q => bnd (g p.1 q.1) fun z => .ok (z, q.2)
theorem mOp_inv {g : D → D → Res D} {ρ ρ' : DEnv} {d : D} (h : mOp g fa fb ρ = .ok (d, ρ')) : ∃ d1 ρ1 d2, fa ρ = .ok (d1, ρ1) ∧ fb ρ1 = .ok (d2, ρ') ∧ g d1 d2 = .ok d := by
  obtain ⟨⟨d1, ρ1⟩, h1, h⟩ := bnd_inv h
  obtain ⟨⟨d2, ρ2⟩, h2, h⟩ := bnd_inv h
  obtain ⟨z, h3, h⟩ := bnd_inv h
  cases h
  exact ⟨d1, ρ1, d2, h1, h2, h3⟩
/-- the reading of an operation, from the readings of its places -/
theorem rd_op {K : PySem.W.Frag} {g : D → D → Res D} {σ : St} {H : Hp} {Q : VK} (h : tE K (mOp g fa fb) σ H Q) : tOp (rD K g) (tE K fa) (tE K fb) σ H fun v H' => KF K H' → Q v H' := by
  obtain ⟨G, ρ, d, ρ', R, hf, hq⟩ := h
  obtain ⟨d1, ρ1, d2, h1, h2, h3⟩ := mOp_inv hf
  refine ⟨G, ρ, d1, ρ1, R, h1, fun x H1 R1 r1 => ?_⟩
  refine ⟨G.hold x d1, ρ1, d2, ρ', R1.hold r1, h2, fun y H2 R2 r2 => ?_⟩
  obtain ⟨R2, r1'⟩ := R2.unhold
  exact ⟨MM G ρ' σ, d1, d2, d, r1', r2, R2.domM, h3, fun v H' s r kf => hq v H' (R2.same kf s) r⟩
theorem de_op {op : Operator} {g : D → D → Res D} (ho : OpR X (binaryOp op) (rD X.K g)) (ha : PE X a (tE X.K fa)) (hb : PE X b (tE X.K fb)) : PE X (.BinOp a op b pos) (tE X.K (mOp g fa fb)) :=
  PE.by (pe_op ho ha hb) fun _ _ _ h => rd_op h
/-- a comparison of data: the heap stays -/
def rB (K : PySem.W.Frag) (g : D → D → Res Bool) : R2 := fun x y H Q => ∃ (M : Addr → Prop) (d e : D) (k : Bool), Rp K M H x d ∧ Rp K M H y e ∧ g d e = .ok k ∧ Q (.bl k) H
def mCmp (g : D → D → Res Bool) (fa fb : EvF) : EvF := fun ρ => bnd (fa ρ) fun p => bnd (fb p.2) fun q => bnd (g p.1 q.1) fun k => .ok (.bool k, q.2)
theorem mCmp_inv {g : D → D → Res Bool} {ρ ρ' : DEnv} {d : D} (h : mCmp g fa fb ρ = .ok (d, ρ')) : ∃ d1 ρ1 d2 k, fa ρ = .ok (d1, ρ1) ∧ fb ρ1 = .ok (d2, ρ') ∧ g d1 d2 = .ok k ∧ d = .bool k := by
  obtain ⟨⟨d1, ρ1⟩, h1, h⟩ := bnd_inv h
  obtain ⟨⟨d2, ρ2⟩, h2, h⟩ := bnd_inv h
  obtain ⟨z, h3, h⟩ := bnd_inv h
  cases h
  exact ⟨d1, ρ1, d2, z, h1, h2, h3, rfl⟩
theorem de_cmp {op : CmpOp} {g : D → D → Res Bool} (ho : OpR X (compareOp op) (rB X.K g)) (ha : PE X a (tE X.K fa)) (hb : PE X b (tE X.K fb)) (hm : behindInMarks op b = false := by first | exact nomark _ | rfl) :
    PE X (.Compare a [op] [b] pos) (tE X.K (mCmp g fa fb)) := by
  refine PE.by (pe_cmpR ho ha hb hm) ?_
  rintro σ H Q ⟨G, ρ, d, ρ', R, hf, hq⟩
  obtain ⟨d1, ρ1, d2, k, h1, h2, h3, rfl⟩ := mCmp_inv hf
  refine ⟨G, ρ, d1, ρ1, R, h1, fun x H1 R1 r1 => ?_⟩
  refine ⟨G.hold x d1, ρ1, d2, ρ', R1.hold r1, h2, fun y H2 R2 r2 => ?_⟩
  obtain ⟨R2, r1'⟩ := R2.unhold
  exact ⟨MM G ρ' σ, d1, d2, k, r1', r2, h3, fun _ => hq _ _ R2 (.bl k)⟩
theorem dt_cmp {op : CmpOp} {g : D → D → Res Bool} (ho : OpR X (compareOp op) (rB X.K g)) (ha : PE X a (tE X.K fa)) (hb : PE X b (tE X.K fb)) (hm : behindInMarks op b = false := by first | exact nomark _ | rfl) :
    PT X (.Compare a [op] [b] pos) (tTs X.K (mCmp g fa fb)) := by
  refine PT.by (pt_cmpR ho ha hb hm) ?_
  rintro σ H Q ⟨G, ρ, d, ρ', R, hf, hq⟩
  obtain ⟨d1, ρ1, d2, k, h1, h2, h3, e⟩ := mCmp_inv hf
  cases e
  refine ⟨G, ρ, d1, ρ1, R, h1, fun x H1 R1 r1 => ?_⟩
  refine ⟨G.hold x d1, ρ1, d2, ρ', R1.hold r1, h2, fun y H2 R2 r2 => ?_⟩
  obtain ⟨R2, r1'⟩ := R2.unhold
  exact ⟨MM G ρ' σ, d1, d2, d, r1', r2, h3, d, rfl, fun _ => hq _ R2⟩
/-- a op b op' c -/
def mChain (g g' : D → D → Res Bool) (fa fb fc : EvF) : EvF := fun ρ => bnd (fa ρ) fun p => bnd (fb p.2) fun q => bnd (g p.1 q.1) fun k =>
  if k = true then bnd (fc q.2) fun r => bnd (g' q.1 r.1) fun k' => .ok (.bool k', r.2) else .ok (.bool false, q.2)
theorem rd_chain {K : PySem.W.Frag} {g g' : D → D → Res Bool} {σ : St} {H : Hp} {G : Gh} {ρ ρ' : DEnv} {d : D} {Q : VK} (R : Rel K G ρ σ H) (hf : mChain g g' fa fb fc ρ = .ok (d, ρ')) (hq : ∀ k H', d = .bool k → Rel K G ρ' σ H' → Q (.bl k) H') :
    tChain (rB K g) (rB K g') (tE K fa) (tE K fb) (tE K fc) σ H Q := by
  obtain ⟨⟨d1, ρ1⟩, h1, h⟩ := bnd_inv hf
  obtain ⟨⟨d2, ρ2⟩, h2, h⟩ := bnd_inv h
  obtain ⟨k, h3, h⟩ := bnd_inv h
  refine ⟨G, ρ, d1, ρ1, R, h1, fun x H1 R1 r1 => ?_⟩
  refine ⟨G.hold x d1, ρ1, d2, ρ2, R1.hold r1, h2, fun y H2 R2 r2 => ?_⟩
  obtain ⟨R2, r1'⟩ := R2.unhold
  refine ⟨MM G ρ2 σ, d1, d2, k, r1', r2, h3, k, rfl, ?_⟩
  cases k with
  | true =>
    rw [if_pos rfl]
    rw [if_pos rfl] at h
    obtain ⟨⟨d3, ρ3⟩, h4, h⟩ := bnd_inv h
    obtain ⟨k', h5, h⟩ := bnd_inv h
    cases h
    refine ⟨G.hold y d2, ρ2, d3, ρ3, R2.hold r2, h4, fun w H4 R4 r4 => ?_⟩
    obtain ⟨R4, ry⟩ := R4.unhold
    exact ⟨MM G ρ3 σ, d2, d3, k', ry, r4, h5, hq _ _ rfl R4⟩
  | false =>
    rw [if_neg Bool.false_ne_true]
    rw [if_neg Bool.false_ne_true] at h
    cases h
    exact hq _ _ rfl R2
theorem de_chain {op op' : CmpOp} {g g' : D → D → Res Bool} (ho : OpR X (compareOp op) (rB X.K g)) (ho' : OpR X (compareOp op') (rB X.K g')) (ha : PE X a (tE X.K fa)) (hb : PE X b (tE X.K fb)) (hc : PE X c (tE X.K fc))
    (hm : lastMarks [op, op'] [b, c] = false := by with_unfolding_all rfl) : PE X (.Compare a [op, op'] [b, c] pos) (tE X.K (mChain g g' fa fb fc)) := by
  refine PE.by (pe_chain ho ho' ha hb hc hm) ?_
  rintro σ H Q ⟨G, ρ, d, ρ', R, hf, hq⟩
  exact rd_chain R hf fun k H' e R' _ => hq _ _ R' (e ▸ .bl k)
theorem dt_chain {op op' : CmpOp} {g g' : D → D → Res Bool} (ho : OpR X (compareOp op) (rB X.K g)) (ho' : OpR X (compareOp op') (rB X.K g')) (ha : PE X a (tE X.K fa)) (hb : PE X b (tE X.K fb)) (hc : PE X c (tE X.K fc))
    (hm : lastMarks [op, op'] [b, c] = false := by with_unfolding_all rfl) : PT X (.Compare a [op, op'] [b, c] pos) (tTs X.K (mChain g g' fa fb fc)) := by
  refine PT.by (pt_chain ho ho' ha hb hc hm) ?_
  rintro σ H Q ⟨G, ρ, d, ρ', R, hf, hq⟩
  exact rd_chain (Q := fun x H' => ∃ k, x = .bl k ∧ (KF X.K H' → Q k H')) R hf fun k H' e R' => by
    cases e
    exact ⟨d, rfl, fun _ => hq _ R'⟩

/-! ## truth -/
theorem dt_val (h : PE X e (tE X.K f)) (he : ∀ whole, isTrue e X.env whole = (do let v ← whole; standAt e.pos; holding [v] (truthy v)) := by intro _; rfl) : PT X e (tTs X.K f) := by
  refine PT.by (pt_val h he) ?_
  rintro σ H Q ⟨G, ρ, d, ρ', R, hf, hq⟩
  exact ⟨G, ρ, .bool d, ρ', R, hf, fun v H' R' r => ⟨d, r.bool_inv, fun _ => hq _ R'⟩⟩
def mAnd (fa fb : EvF) : EvF := fun ρ => bnd (fa ρ) fun p => match p.1 with
  | .bool true => fb p.2
  | .bool false => .ok (.bool false, p.2)
  | _ => stuck
def mOr (fa fb : EvF) : EvF := fun ρ => bnd (fa ρ) fun p => match p.1 with
  | .bool true => .ok (.bool true, p.2)
  | .bool false => fb p.2
  | _ => stuck
def mNot (fa : EvF) : EvF := fun ρ => bnd (fa ρ) fun p => match p.1 with
  | .bool b => .ok (.bool (!b), p.2)
  | _ => stuck
theorem mAnd_inv {ρ ρ' : DEnv} {d : D} (h : mAnd fa fb ρ = .ok (d, ρ')) : ∃ k ρ1, fa ρ = .ok (.bool k, ρ1) ∧ ((k = true ∧ fb ρ1 = .ok (d, ρ')) ∨ (k = false ∧ d = .bool false ∧ ρ' = ρ1)) := by
  obtain ⟨⟨d1, ρ1⟩, h1, h⟩ := bnd_inv h
  cases d1 with
  | bool k =>
    cases k with
    | true => exact ⟨true, ρ1, h1, .inl ⟨rfl, h⟩⟩
    | false => cases h; exact ⟨false, ρ1, h1, .inr ⟨rfl, rfl, rfl⟩⟩
  | _ => cases h
theorem mOr_inv {ρ ρ' : DEnv} {d : D} (h : mOr fa fb ρ = .ok (d, ρ')) : ∃ k ρ1, fa ρ = .ok (.bool k, ρ1) ∧ ((k = false ∧ fb ρ1 = .ok (d, ρ')) ∨ (k = true ∧ d = .bool true ∧ ρ' = ρ1)) := by
  obtain ⟨⟨d1, ρ1⟩, h1, h⟩ := bnd_inv h
  cases d1 with
  | bool k =>
    cases k with
    | false => exact ⟨false, ρ1, h1, .inl ⟨rfl, h⟩⟩
    | true => cases h; exact ⟨true, ρ1, h1, .inr ⟨rfl, rfl, rfl⟩⟩
  | _ => cases h
theorem mNot_inv {ρ ρ' : DEnv} {d : D} (h : mNot fa ρ = .ok (d, ρ')) : ∃ k, fa ρ = .ok (.bool k, ρ') ∧ d = .bool (!k) := by
  obtain ⟨⟨d1, ρ1⟩, h1, h⟩ := bnd_inv h
  cases d1 with
  | bool k => cases h; exact ⟨k, h1, rfl⟩
  | _ => cases h
theorem de_one {op : BoolOp} (h : PE X a (tE X.K f)) : PE X (.BoolOp op [a] pos) (tE X.K f) := pe_one h
theorem de_and {rest : List Expr} (ha : PE X a (tE X.K fa)) (hb : PE X (.BoolOp .And (b :: rest) pos) (tE X.K fb)) : PE X (.BoolOp .And (a :: b :: rest) pos) (tE X.K (mAnd fa fb)) := by
  refine PE.by (pe_and ha hb) ?_
  rintro σ H Q ⟨G, ρ, d, ρ', R, hf, hq⟩
  obtain ⟨k, ρ1, h1, h2⟩ := mAnd_inv hf
  refine ⟨G, ρ, .bool k, ρ1, R, h1, fun x H1 R1 r1 => ⟨k, r1.bool_inv, ?_⟩⟩
  rcases h2 with ⟨rfl, h2⟩ | ⟨rfl, rfl, rfl⟩
  · rw [if_pos rfl]
    exact ⟨G, ρ1, d, ρ', R1, h2, fun v H' R' r' _ => hq v H' R' r'⟩
  · rw [if_neg Bool.false_ne_true]
    exact fun _ => hq _ _ R1 (.bl false)
theorem de_or {rest : List Expr} (ha : PE X a (tE X.K fa)) (hb : PE X (.BoolOp .Or (b :: rest) pos) (tE X.K fb)) : PE X (.BoolOp .Or (a :: b :: rest) pos) (tE X.K (mOr fa fb)) := by
  refine PE.by (pe_or ha hb) ?_
  rintro σ H Q ⟨G, ρ, d, ρ', R, hf, hq⟩
  obtain ⟨k, ρ1, h1, h2⟩ := mOr_inv hf
  refine ⟨G, ρ, .bool k, ρ1, R, h1, fun x H1 R1 r1 => ⟨k, r1.bool_inv, ?_⟩⟩
  rcases h2 with ⟨rfl, h2⟩ | ⟨rfl, rfl, rfl⟩
  · rw [if_neg Bool.false_ne_true]
    exact ⟨G, ρ1, d, ρ', R1, h2, fun v H' R' r' _ => hq v H' R' r'⟩
  · rw [if_pos rfl]
    exact fun _ => hq _ _ R1 (.bl true)
theorem de_not (ha : PE X a (tE X.K fa)) : PE X (.UnaryOp .Not a pos) (tE X.K (mNot fa)) := by
  refine PE.by (pe_not ha) ?_
  rintro σ H Q ⟨G, ρ, d, ρ', R, hf, hq⟩
  obtain ⟨k, h1, rfl⟩ := mNot_inv hf
  exact ⟨G, ρ, .bool k, ρ', R, h1, fun x H1 R1 r1 => ⟨k, r1.bool_inv, fun _ => hq _ _ R1 (.bl _)⟩⟩
/-- tests of and, or: of any 'whole' -/
theorem dw_and1 (ha : PT X a (tTs X.K f)) : PW X (.BoolOp .And [a] pos) (tTs X.K f) := pw_and1 ha
theorem dw_or1 (ha : PT X a (tTs X.K f)) : PW X (.BoolOp .Or [a] pos) (tTs X.K f) := pw_or1 ha
theorem PW.by {t t' : TT} (h : PW X e t) (hh : ∀ σ H Q, t' σ H Q → t σ H fun v H' => KF X.K H' → Q v H') : PW X e t' :=
  ⟨fun wh pins s σ H Q I hq => thn (h.run wh pins s σ H _ I (hh σ H Q hq)) fun u s' ⟨H', I', q⟩ => ⟨H', I', q (kf_of I')⟩⟩
theorem dw_and {rest : List Expr} (ha : PT X a (tTs X.K fa)) (hb : PW X (.BoolOp .And (b :: rest) pos) (tTs X.K fb)) : PW X (.BoolOp .And (a :: b :: rest) pos) (tTs X.K (mAnd fa fb)) := by
  refine PW.by (pw_and ha hb) ?_
  rintro σ H Q ⟨G, ρ, d, ρ', R, hf, hq⟩
  obtain ⟨k, ρ1, h1, h2⟩ := mAnd_inv hf
  refine ⟨G, ρ, k, ρ1, R, h1, fun H1 R1 => ?_⟩
  rcases h2 with ⟨rfl, h2⟩ | ⟨rfl, e, rfl⟩
  · rw [if_pos rfl]
    exact ⟨G, ρ1, d, ρ', R1, h2, fun H' R' _ => hq H' R'⟩
  · cases e
    rw [if_neg Bool.false_ne_true]
    exact fun _ => hq _ R1
theorem dw_or {rest : List Expr} (ha : PT X a (tTs X.K fa)) (hb : PW X (.BoolOp .Or (b :: rest) pos) (tTs X.K fb)) : PW X (.BoolOp .Or (a :: b :: rest) pos) (tTs X.K (mOr fa fb)) := by
  refine PW.by (pw_or ha hb) ?_
  rintro σ H Q ⟨G, ρ, d, ρ', R, hf, hq⟩
  obtain ⟨k, ρ1, h1, h2⟩ := mOr_inv hf
  refine ⟨G, ρ, k, ρ1, R, h1, fun H1 R1 => ?_⟩
  rcases h2 with ⟨rfl, h2⟩ | ⟨rfl, e, rfl⟩
  · rw [if_neg Bool.false_ne_true]
    exact ⟨G, ρ1, d, ρ', R1, h2, fun H' R' _ => hq H' R'⟩
  · cases e
    rw [if_pos rfl]
    exact fun _ => hq _ R1
theorem dt_not (ha : PT X a (tTs X.K fa)) : PT X (.UnaryOp .Not a pos) (tTs X.K (mNot fa)) := by
  refine PT.by (pt_not ha) ?_
  rintro σ H Q ⟨G, ρ, d, ρ', R, hf, hq⟩
  obtain ⟨k, h1, e⟩ := mNot_inv hf
  cases e
  exact ⟨G, ρ, k, ρ', R, h1, fun H1 R1 _ => hq _ R1⟩
def mIf (ft fa fb : EvF) : EvF := fun ρ => bnd (ft ρ) fun p => match p.1 with
  | .bool true => fa p.2
  | .bool false => fb p.2
  | _ => stuck
theorem de_if (hc : PT X c (tTs X.K fc)) (ha : PE X a (tE X.K fa)) (hb : PE X b (tE X.K fb)) : PE X (.IfExp c a b pos) (tE X.K (mIf fc fa fb)) := by
  refine PE.by (pe_ifExp hc ha hb) ?_
  rintro σ H Q ⟨G, ρ, d, ρ', R, hf, hq⟩
  obtain ⟨⟨d1, ρ1⟩, h1, h⟩ := bnd_inv hf
  cases d1 with
  | bool k =>
    refine ⟨G, ρ, k, ρ1, R, h1, fun H1 R1 => ?_⟩
    cases k with
    | true =>
      rw [if_pos rfl]
      exact ⟨G, ρ1, d, ρ', R1, h, fun v H' R' r' _ => hq v H' R' r'⟩
    | false =>
      rw [if_neg Bool.false_ne_true]
      exact ⟨G, ρ1, d, ρ', R1, h, fun v H' R' r' _ => hq v H' R' r'⟩
  | _ => cases h
def mUn (g : D → Res D) (fa : EvF) : EvF := fun ρ => bnd (fa ρ) fun p => bnd (g p.1) fun z => .ok (z, p.2)
def negD : D → Res D
  | .int i => .ok (.int (-i))
  | _ => stuck
theorem de_neg (ha : PE X a (tE X.K fa)) : PE X (.UnaryOp .USub a pos) (tE X.K (mUn negD fa)) := by
  refine PE.by (pe_un un_neg ha) ?_
  rintro σ H Q ⟨G, ρ, d, ρ', R, hf, hq⟩
  obtain ⟨⟨d1, ρ1⟩, h1, h⟩ := bnd_inv hf
  obtain ⟨z, h2, h⟩ := bnd_inv h
  cases h
  cases d1 with
  | int i => cases h2; exact ⟨G, ρ, _, _, R, h1, fun v H' R' r' => ⟨i, r'.int_inv, fun _ => hq _ _ R' (.int _)⟩⟩
  | _ => cases h2

/-! ## argument lists, displays -/
def mNil : EvA := fun ρ => .ok ([], ρ)
def mCons (fa : EvF) (fs : EvA) : EvA := fun ρ => bnd (fa ρ) fun p => bnd (fs p.2) fun q => .ok (p.1 :: q.1, q.2)
theorem da_nil : PA X [] (tA X.K mNil) := by
  refine PA.by pa_nil ?_
  rintro σ H Q ⟨G, ρ, d, ρ', R, hf, hq⟩
  cases hf
  exact fun _ => hq _ _ R .nil
theorem da_cons (ha : PE X a (tE X.K fa)) (hs : PA X es (tA X.K fs)) (hst : starEach (a :: es) X.env = (false, eval a X.env) :: starEach es X.env := by rfl) : PA X (a :: es) (tA X.K (mCons fa fs)) := by
  refine PA.by (pa_cons ha hs hst) ?_
  rintro σ H Q ⟨G, ρ, d, ρ', R, hf, hq⟩
  obtain ⟨⟨d1, ρ1⟩, h1, h⟩ := bnd_inv hf
  obtain ⟨⟨d2, ρ2⟩, h2, h⟩ := bnd_inv h
  cases h
  refine ⟨G, ρ, d1, ρ1, R, h1, fun x H1 R1 r1 => ?_⟩
  refine ⟨G.hold x d1, ρ1, d2, ρ2, R1.hold r1, h2, fun y H2 R2 r2 _ => ?_⟩
  obtain ⟨R2, r1'⟩ := R2.unhold
  exact hq _ _ R2 (.cons r1' r2)
/-- (a, b, ..); at most a thousand items -/
def mTup (fs : EvA) : EvF := fun ρ => bnd (fs ρ) fun p => if p.1.length ≤ 1000 then .ok (.tuple p.1, p.2) else stuck
theorem k1000 {n : Nat} (h : n ≤ 1000) : n ≤ sizeLine := Nat.le_of_lt (small1000 h)
theorem Same.upd {H : Hp} {p : Addr} {o : HO} (h : H p = none) : Same H (upd H p o) := fun b u e => by rw [upd_ne (ne_of_none e h)]; exact e
theorem de_tup {x1 : Nat} (h : PA X es (tA X.K fs)) : PE X (.Tuple es x1 pos) (tE X.K (mTup fs)) := by
  refine PE.by (pe_tup h) ?_
  rintro σ H Q ⟨G, ρ, d, ρ', R, hf, hq⟩
  obtain ⟨⟨ds, ρ1⟩, h1, h⟩ := bnd_inv hf
  dsimp only at h
  split at h
  · rename_i hl
    cases h
    refine ⟨G, ρ, ds, ρ', R, h1, fun vs H1 R1 r1 => ⟨by rw [r1.len]; exact k1000 hl, fun p hp kf => ?_⟩⟩
    have s : Same H1 (upd H1 p (.tup vs)) := Same.upd hp
    exact hq _ _ (R1.same kf s) (.tup (R1.nown hp) (SqT.of upd_same) (r1.same s))
  · cases h
/-- [a, b, ..], a new list -/
def mLst (fs : EvA) : EvA := fun ρ => bnd (fs ρ) fun p => if p.1.length ≤ 1000 then .ok p else stuck
theorem dl_lst (h : PA X es (tA X.K fs)) : PE X (.List es pos) (tL X.K (mLst fs)) := by
  refine PE.by (pe_lst h) ?_
  rintro σ H Q ⟨G, ρ, d, ρ', R, hf, hq⟩
  obtain ⟨⟨ds, ρ1⟩, h1, h⟩ := bnd_inv hf
  dsimp only at h
  split at h
  · rename_i hl
    cases h
    refine ⟨G, ρ, d, ρ', R, h1, fun vs H1 R1 r1 => ⟨by rw [r1.len]; exact k1000 hl, fun p hp kf => ?_⟩⟩
    have s : Same H1 (upd H1 p (.lst vs)) := Same.upd hp
    refine hq p vs _ (R1.fresh hp kf) upd_same (((r1.off (kf.free upd_same) hp).weak fun b z => mm_add.mp z).same s) (R1.nown hp) fun o z => ?_
    have := R1.keep p o z
    rw [hp] at this
    cases this
  · cases h
/-- a new list as data -/
def mOfL (fs : EvA) : EvF := fun ρ => bnd (fs ρ) fun p => .ok (.list p.1, p.2)
theorem de_ofL (h : PE X e (tL X.K fs)) : PE X e (tE X.K (mOfL fs)) := by
  refine PE.by h ?_
  rintro σ H Q ⟨G, ρ, d, ρ', R, hf, hq⟩
  obtain ⟨⟨ds, ρ1⟩, h1, h⟩ := bnd_inv hf
  cases h
  refine ⟨G, ρ, ds, _, R, h1, fun a vs H' R' ha hx hM hf kf => ?_⟩
  exact hq _ _ R'.unadd (.lst hM (SqL.of ha) (hx.weak fun b z => mm_add.mpr (.inl z)))

/-! ## what is read at once -/
abbrev EvV := DEnv → Res ((Bool × List D) × DEnv)
def IsSq (K : PySem.W.Frag) (H : Hp) (t : Bool) (a : Addr) (vs : List V) : Prop := if t = true then SqT K H a vs else SqL K H a vs
/-- e gives a list (or, true, a tuple) that is read at once; it may be one of the def's own -/
def tW (K : PySem.W.Frag) (f : EvV) : TE := fun σ H Q => ∃ G ρ t xs ρ', Rel K G ρ σ H ∧ f ρ = .ok ((t, xs), ρ') ∧
  ∀ a vs H', Rel K G ρ' σ H' → IsSq K H' t a vs → RpA K (MM G ρ' σ) H' vs xs → (t = true → ¬ MM G ρ' σ a) → Q (.ref a) H'
def seqD : D → Res (Bool × List D)
  | .list xs => .ok (false, xs)
  | .tuple xs => .ok (true, xs)
  | _ => stuck
def mView (f : EvF) : EvV := fun ρ => bnd (f ρ) fun p => bnd (seqD p.1) fun z => .ok (z, p.2)
theorem dv_of (h : PE X e (tE X.K f)) : PE X e (tW X.K (mView f)) := by
  refine PE.by h ?_
  rintro σ H Q ⟨G, ρ, t, xs, ρ', R, hf, hq⟩
  obtain ⟨⟨d, ρ1⟩, h1, h⟩ := bnd_inv hf
  obtain ⟨z, h2, h⟩ := bnd_inv h
  cases h
  refine ⟨G, ρ, d, _, R, h1, fun v H' R' r _ => ?_⟩
  cases d with
  | list ds =>
    cases h2
    obtain ⟨a, vs, rfl, n, q, r⟩ := r.list_inv
    exact hq a vs H' R' q r fun z => Bool.noConfusion z
  | tuple ds =>
    cases h2
    obtain ⟨a, vs, rfl, n, q, r⟩ := r.tup_inv
    exact hq a vs H' R' q r fun _ => n
  | _ => cases h2
def mOwn (i : Nat) : EvV := fun ρ => match ρ[i]? with | some (some (Sl.own _ xs)) => .ok ((false, xs), ρ) | _ => stuck
theorem dv_own (i : Nat) {x : Str} (hN : X.N[i]? = some x := by rfl) (hv : Vis X.env.scope x := by first | exact Or.inl rfl | exact Or.inr (Or.inl rfl) | exact Or.inr (Or.inr rfl)) (hd : (x == ("__debug__" : Str)) = false := by decide)
    (hcd : (x == ("__classdict__" : Str)) = false := by decide) : PE X (.Name x pos) (tW X.K (mOwn i)) := by
  refine PE.by (pv i hN hv hd hcd) ?_
  rintro σ H Q ⟨G, ρ, t, xs, ρ', R, hf, hq⟩
  unfold mOwn at hf
  split at hf
  · rename_i b ys e
    cases hf
    obtain ⟨a, vs, h1, h2, h3, _⟩ := R.own i b _ e
    exact ⟨.ref a, h1, fun _ => hq a vs H R (SqL.of h2) h3 fun z => Bool.noConfusion z⟩
  · cases hf
end
end L2.DL

namespace L2.DL
open PySem PySem.Spec PyProof.Rows

section
variable {K : PySem.W.Frag} {M : Addr → Prop} {H : Hp}
mutual
theorem Rp.plain : ∀ {v : V} (d : D), Rp K M H v d → d.plain = true
  | _, .none, _ => rfl
  | _, .bool _, _ => rfl
  | _, .int _, _ => rfl
  | _, .str _, _ => rfl
  | _, .list ds, h => by
    cases h with
    | lst _ _ r => simp only [PyData.plain]; exact RpA.plain ds r
  | _, .tuple ds, h => by
    cases h with
    | tup _ _ r => simp only [PyData.plain]; exact RpA.plain ds r
  | _, .dict _, h => by cases h
theorem RpA.plain : ∀ {vs : List V} (ds : List D), RpA K M H vs ds → PyData.plainAll ds = true
  | _, [], _ => rfl
  | _, d :: ds, h => by
    cases h with
    | cons h1 h2 => simp only [PyData.plainAll]; rw [Rp.plain d h1, RpA.plain ds h2]; rfl
end
end
section
variable {X : Cx} {pins : List (Addr × Obj)} {σ : St} {H : Hp} {s : Shared} {M : Addr → Prop}
theorem Rp.reads {v : V} {d : D} {u : Value} (I : Inv X pins σ H s) (h : Rp X.K M H v d) (r : RelV v u) : ∃ as, Reads s.heap u d as := Dp.reads I d v u (h.dp d) r
theorem RpA.reads {vs : List V} {ds : List D} {us : List Value} (I : Inv X pins σ H s) (h : RpA X.K M H vs ds) (r : Vals vs us) : ∃ as, ReadsAll s.heap us ds as := Dp.readsAll I ds vs us (h.dp ds) r
end

/-! ## arithmetic -/
def lim : Nat := 1000000
theorem lim_le {n : Nat} (h : n ≤ lim) : n ≤ sizeLine := by
  have : lim ≤ sizeLine := by decide
  omega
def addD : D → D → Res D
  | .int i, .int j => .ok (.int (i + j))
  | .str x, .str y => if x.length + y.length ≤ lim then .ok (.str (x ++ y)) else stuck
  | .list xs, .list ys => if xs.length + ys.length ≤ lim then .ok (.list (xs ++ ys)) else stuck
  | .tuple xs, .tuple ys => if xs.length + ys.length ≤ lim then .ok (.tuple (xs ++ ys)) else stuck
  | _, _ => stuck
def subD : D → D → Res D
  | .int i, .int j => .ok (.int (i - j))
  | _, _ => stuck
def sm (i : Int) : Bool := decide (-(2 ^ 64) < i ∧ i < 2 ^ 64)
def mulD : D → D → Res D
  | .int i, .int j => if sm i || sm j then .ok (.int (i * j)) else stuck
  | _, _ => stuck
def fdivD : D → D → Res D
  | .int i, .int j => if j ≠ 0 ∧ j.natAbs < 1073741824 then .ok (.int (i.fdiv j)) else stuck
  | _, _ => stuck
def modD : D → D → Res D
  | .int i, .int j => if j ≠ 0 then .ok (.int (i.fmod j)) else stuck
  | _, _ => stuck
def powD : D → D → Res D
  | .int i, .int j => if 0 ≤ j ∧ j ≤ 1000000 ∧ i.natAbs < 2 ^ 64 then .ok (.int (i ^ j.toNat)) else stuck
  | _, _ => stuck
theorem ite_ok {α : Type} {c : Prop} [Decidable c] {x : α} {y : α} (h : (if c then Except.ok x else stuck : Res α) = .ok y) : c ∧ x = y := by
  split at h
  · rename_i hc; exact ⟨hc, by injection h⟩
  · cases h
section
variable {X : Cx}
/-- a list that is read, joined with another one -/
theorem cat_lists {pins : List (Addr × Obj)} {σ : St} {H : Hp} {s : Shared} {l b : Addr} {xs zs : List V} {Q : VK} (I : Inv X pins σ H s) (hH : SqL X.K H l xs) (hB : SqL X.K H b zs) (hz : xs.length + zs.length ≤ sizeLine)
    (q : ∀ p, H p = none → Q (.ref p) (upd H p (.lst (xs ++ zs)))) : wpAny (model X.prog X.w) X.A (binaryOp .Add (.ref l) (.ref b)) (EP X pins σ Q) X.xe s := by
  obtain ⟨its, r, ⟨⟨cls, dd, data, sl⟩, n, e, hc, hd, hx⟩, _⟩ := I.list hH
  obtain ⟨its2, r2, ⟨⟨cls2, dd2, data2, sl2⟩, n2, e2, hc2, hd2, hx2⟩, _⟩ := I.list hB
  simp only at hc hd hx hc2 hd2 hx2
  subst hc hd hx hc2 hd2 hx2
  have l1 := r.length
  have l2 := r2.length
  have hsz : its.toArray.size + its2.toArray.size ≤ sizeLine := by rw [List.size_toArray, List.size_toArray, ← l1, ← l2]; exact hz
  refine PySem.concat_meets ⟨_, e, rfl⟩ ⟨_, e2, rfl⟩ PySem.noFill_list_add PySem.seq_list_add PySem.F.slot_list_add PySem.F.entry_list_add (PySem.F.args_list_add_2 _ _) (PyProof.Rows.list_addW l b its.toArray its2.toArray n n2 none none sl sl2 hsz) ⟨e, e2, ?_⟩
  have ea : its.toArray ++ its2.toArray = (its ++ its2).toArray := by simp
  rw [ea]
  exact ⟨.ref _, _, I.lnew (t' := s.toks) (r.append r2) (by rw [List.length_append]; omega), rfl, q _ I.fresh⟩
theorem nM {M : Addr → Prop} {H : Hp} {p : Addr} (hm : ∀ a, M a → H a ≠ none) (hp : H p = none) : ¬ M p := fun z => hm p z hp
theorem od_add : OpR X (binaryOp .Add) (rD X.K addD) := by
  rintro pins s σ H x y v u Q I rx ry ⟨M, d, e, z, hd, he, hm, hg, hq⟩
  unfold addD at hg
  split at hg
  · cases hg
    cases hd; cases he
    exact op_add pins s σ H _ _ v u Q I rx ry ⟨_, _, rfl, rfl, hq _ _ (Same.refl _) (.int _)⟩
  · obtain ⟨hl, rfl⟩ := ite_ok hg
    cases hd; cases he
    exact op_add_str pins s σ H _ _ v u Q I rx ry ⟨_, _, rfl, rfl, lim_le hl, hq _ _ (Same.refl _) (.str _)⟩
  · obtain ⟨hl, rfl⟩ := ite_ok hg
    obtain ⟨a, vs, rfl, n1, q1, r1⟩ := hd.list_inv
    obtain ⟨b, ws, rfl, n2, q2, r2⟩ := he.list_inv
    cases rx
    cases ry
    refine cat_lists I q1 q2 (by rw [r1.len, r2.len]; exact lim_le hl) fun p hp => ?_
    exact hq _ _ (Same.upd hp) (.lst (nM hm hp) (SqL.of upd_same) ((r1.append r2).same (Same.upd hp)))
  · obtain ⟨hl, rfl⟩ := ite_ok hg
    obtain ⟨a, vs, rfl, n1, q1, r1⟩ := hd.tup_inv
    obtain ⟨b, ws, rfl, n2, q2, r2⟩ := he.tup_inv
    refine op_catA pins s σ H _ _ v u Q I rx ry ⟨a, b, vs, ws, rfl, rfl, q1, q2, by rw [r1.len, r2.len]; exact lim_le hl, fun h0 => ?_, fun _ h0 => ?_, fun _ _ p hp => ?_⟩
    · subst h0
      cases r1
      exact hq _ _ (Same.refl _) (.tup n2 q2 r2)
    · subst h0
      cases r2
      rw [List.append_nil] at hq
      exact hq _ _ (Same.refl _) (.tup n1 q1 r1)
    · exact hq _ _ (Same.upd hp) (.tup (nM hm hp) (SqT.of upd_same) ((r1.append r2).same (Same.upd hp)))
  · cases hg
theorem od_sub : OpR X (binaryOp .Sub) (rD X.K subD) := by
  rintro pins s σ H x y v u Q I rx ry ⟨M, d, e, z, hd, he, hm, hg, hq⟩
  unfold subD at hg
  split at hg
  · cases hg
    cases hd; cases he
    exact op_sub pins s σ H _ _ v u Q I rx ry ⟨_, _, rfl, rfl, hq _ _ (Same.refl _) (.int _)⟩
  · cases hg
theorem sm_or {i j : Int} (h : (sm i || sm j) = true) : CMul i j := by
  rcases Bool.or_eq_true _ _ ▸ h with h | h
  · exact .inl (of_decide_eq_true h)
  · exact .inr (of_decide_eq_true h)
theorem od_mul : OpR X (binaryOp .Mult) (rD X.K mulD) := by
  rintro pins s σ H x y v u Q I rx ry ⟨M, d, e, z, hd, he, hm, hg, hq⟩
  unfold mulD at hg
  split at hg
  · obtain ⟨hl, rfl⟩ := ite_ok hg
    cases hd; cases he
    exact op_mul pins s σ H _ _ v u Q I rx ry ⟨_, _, rfl, rfl, sm_or hl, hq _ _ (Same.refl _) (.int _)⟩
  · cases hg
theorem od_fdiv : OpR X (binaryOp .FloorDiv) (rD X.K fdivD) := by
  rintro pins s σ H x y v u Q I rx ry ⟨M, d, e, z, hd, he, hm, hg, hq⟩
  unfold fdivD at hg
  split at hg
  · obtain ⟨hl, rfl⟩ := ite_ok hg
    cases hd; cases he
    exact op_fdivN pins s σ H _ _ v u Q I rx ry ⟨_, _, rfl, rfl, hl, hq _ _ (Same.refl _) (.int _)⟩
  · cases hg
theorem od_mod : OpR X (binaryOp .Mod) (rD X.K modD) := by
  rintro pins s σ H x y v u Q I rx ry ⟨M, d, e, z, hd, he, hm, hg, hq⟩
  unfold modD at hg
  split at hg
  · obtain ⟨hl, rfl⟩ := ite_ok hg
    cases hd; cases he
    exact op_modN pins s σ H _ _ v u Q I rx ry ⟨_, _, rfl, rfl, hl, hq _ _ (Same.refl _) (.int _)⟩
  · cases hg
theorem od_pow : OpR X (binaryOp .Pow) (rD X.K powD) := by
  rintro pins s σ H x y v u Q I rx ry ⟨M, d, e, z, hd, he, hm, hg, hq⟩
  unfold powD at hg
  split at hg
  · obtain ⟨hl, rfl⟩ := ite_ok hg
    cases hd; cases he
    exact op_pow pins s σ H _ _ v u Q I rx ry ⟨_, _, rfl, rfl, hl, hq _ _ (Same.refl _) (.int _)⟩
  · cases hg

/-! ## comparisons -/
def near (d e : D) : Bool := decide (min d.depth e.depth ≤ 60)
def eqD (d e : D) : Res Bool := if near d e then .ok (PyData.eqv d e) else stuck
def neD (d e : D) : Res Bool := if near d e then .ok (!PyData.eqv d e) else stuck
def isNone : D → Bool
  | .none => true
  | _ => false
def ltOk (d e : D) : Bool := PySem.W.alike d e && !isNone d && near d e
/-- x < y; of numbers by themselves -/
def ltD : D → D → Res Bool
  | .int i, .int j => .ok (decide (i < j))
  | d, e => if ltOk d e then .ok (PySem.W.dataLt d e) else stuck
def leD : D → D → Res Bool
  | .int i, .int j => .ok (decide (i ≤ j))
  | d, e => if ltOk d e then .ok (!PySem.W.dataLt e d) else stuck
def gtD : D → D → Res Bool
  | .int i, .int j => .ok (decide (j < i))
  | d, e => if ltOk d e then .ok (PySem.W.dataLt e d) else stuck
def geD : D → D → Res Bool
  | .int i, .int j => .ok (decide (j ≤ i))
  | d, e => if ltOk d e then .ok (!PySem.W.dataLt d e) else stuck
theorem near_ok {A : Around} {d e : D} (h : near d e = true) (hu : A.units + 64 < cLine) : A.units + min d.depth e.depth < cLine := by
  have := of_decide_eq_true h
  omega
theorem ltOk_inv {d e : D} (h : ltOk d e = true) : PySem.W.alike d e = true ∧ d ≠ .none ∧ near d e = true := by
  unfold ltOk at h
  rw [Bool.and_eq_true, Bool.and_eq_true] at h
  refine ⟨h.1.1, fun z => ?_, h.2⟩
  subst z
  exact absurd h.1.2 (by decide)
theorem ob_eq (hu : X.A.units + 64 < cLine) : OpR X (compareOp .Eq) (rB X.K eqD) := by
  rintro pins s σ H x y v u Q I rx ry ⟨M, d, e, k, hd, he, hg, hq⟩
  obtain ⟨hn, rfl⟩ := ite_ok hg
  obtain ⟨as, r1⟩ := hd.reads I rx
  obtain ⟨bs, r2⟩ := he.reads I ry
  exact PySem.SeqAt.eq_plain r1 r2 (hd.plain d) (he.plain e) (near_ok hn hu) ⟨.bl _, H, I, rfl, hq⟩
theorem ob_ne (hu : X.A.units + 64 < cLine) : OpR X (compareOp .NotEq) (rB X.K neD) := by
  rintro pins s σ H x y v u Q I rx ry ⟨M, d, e, k, hd, he, hg, hq⟩
  obtain ⟨hn, rfl⟩ := ite_ok hg
  obtain ⟨as, r1⟩ := hd.reads I rx
  obtain ⟨bs, r2⟩ := he.reads I ry
  exact PySem.SeqAt.ne_plain r1 r2 (hd.plain d) (he.plain e) (near_ok hn hu) ⟨.bl _, H, I, rfl, hq⟩
theorem ob_lt (hu : X.A.units + 64 < cLine) : OpR X (compareOp .Lt) (rB X.K ltD) := by
  rintro pins s σ H x y v u Q I rx ry ⟨M, d, e, k, hd, he, hg, hq⟩
  unfold ltD at hg
  split at hg
  · cases hg; cases hd; cases he
    exact op_lt pins s σ H _ _ v u Q I rx ry ⟨_, _, rfl, rfl, hq⟩
  · obtain ⟨hn, rfl⟩ := ite_ok hg
    obtain ⟨h1, h2, h3⟩ := ltOk_inv hn
    obtain ⟨as, r1⟩ := hd.reads I rx
    obtain ⟨bs, r2⟩ := he.reads I ry
    exact PySem.W.lt_data r1 r2 h1 h2 (near_ok h3 hu) ⟨.bl _, H, I, rfl, hq⟩
theorem ob_le (hu : X.A.units + 64 < cLine) : OpR X (compareOp .LtE) (rB X.K leD) := by
  rintro pins s σ H x y v u Q I rx ry ⟨M, d, e, k, hd, he, hg, hq⟩
  unfold leD at hg
  split at hg
  · cases hg; cases hd; cases he
    exact op_le pins s σ H _ _ v u Q I rx ry ⟨_, _, rfl, rfl, hq⟩
  · obtain ⟨hn, rfl⟩ := ite_ok hg
    obtain ⟨h1, h2, h3⟩ := ltOk_inv hn
    obtain ⟨as, r1⟩ := hd.reads I rx
    obtain ⟨bs, r2⟩ := he.reads I ry
    exact PySem.W.le_data r1 r2 h1 h2 (near_ok h3 hu) ⟨.bl _, H, I, rfl, hq⟩
theorem ob_gt (hu : X.A.units + 64 < cLine) : OpR X (compareOp .Gt) (rB X.K gtD) := by
  rintro pins s σ H x y v u Q I rx ry ⟨M, d, e, k, hd, he, hg, hq⟩
  unfold gtD at hg
  split at hg
  · cases hg; cases hd; cases he
    exact op_gt pins s σ H _ _ v u Q I rx ry ⟨_, _, rfl, rfl, hq⟩
  · obtain ⟨hn, rfl⟩ := ite_ok hg
    obtain ⟨h1, h2, h3⟩ := ltOk_inv hn
    obtain ⟨as, r1⟩ := hd.reads I rx
    obtain ⟨bs, r2⟩ := he.reads I ry
    exact PySem.W.gt_data r1 r2 h1 h2 (near_ok h3 hu) ⟨.bl _, H, I, rfl, hq⟩
theorem ob_ge (hu : X.A.units + 64 < cLine) : OpR X (compareOp .GtE) (rB X.K geD) := by
  rintro pins s σ H x y v u Q I rx ry ⟨M, d, e, k, hd, he, hg, hq⟩
  unfold geD at hg
  split at hg
  · cases hg; cases hd; cases he
    exact op_ge pins s σ H _ _ v u Q I rx ry ⟨_, _, rfl, rfl, hq⟩
  · obtain ⟨hn, rfl⟩ := ite_ok hg
    obtain ⟨h1, h2, h3⟩ := ltOk_inv hn
    obtain ⟨as, r1⟩ := hd.reads I rx
    obtain ⟨bs, r2⟩ := he.reads I ry
    exact PySem.W.ge_data r1 r2 h1 h2 (near_ok h3 hu) ⟨.bl _, H, I, rfl, hq⟩
/-- x is None -/
def isD (neg : Bool) : D → D → Res Bool := fun d e => match e with
  | .none => .ok (if neg then !isNone d else isNone d)
  | _ => stuck
theorem Rp.none_iff {K : PySem.W.Frag} {M : Addr → Prop} {H : Hp} {v : V} {d : D} (h : Rp K M H v d) : decide (v = .non) = isNone d := by
  cases h <;> rfl
theorem ob_is : OpR X (compareOp .Is) (rB X.K (isD false)) := by
  rintro pins s σ H x y v u Q I rx ry ⟨M, d, e, k, hd, he, hg, hq⟩
  unfold isD at hg
  split at hg
  · cases hg; cases he
    exact op_isN pins s σ H _ _ v u Q I rx ry ⟨rfl, by rw [hd.none_iff]; exact hq⟩
  · cases hg
theorem ob_isnot : OpR X (compareOp .IsNot) (rB X.K (isD true)) := by
  rintro pins s σ H x y v u Q I rx ry ⟨M, d, e, k, hd, he, hg, hq⟩
  unfold isD at hg
  split at hg
  · cases hg; cases he
    exact op_notN pins s σ H _ _ v u Q I rx ry ⟨rfl, by rw [hd.none_iff]; exact hq⟩
  · cases hg
/-- x in xs: a list or a tuple -/
def inD (neg : Bool) : D → D → Res Bool := fun d e => match e with
  | .list xs => if decide (min (PyData.depthAll xs) d.depth ≤ 60) then .ok (if neg then !xs.any (fun y => PyData.eqv y d) else xs.any (fun y => PyData.eqv y d)) else stuck
  | .tuple xs => if decide (min (PyData.depthAll xs) d.depth ≤ 60) then .ok (if neg then !xs.any (fun y => PyData.eqv y d) else xs.any (fun y => PyData.eqv y d)) else stuck
  | _ => stuck
theorem ob_in (hu : X.A.units + 64 < cLine) : OpR X (compareOp .In) (rB X.K (inD false)) := by
  rintro pins s σ H x y v u Q I rx ry ⟨M, d, e, k, hd, he, hg, hq⟩
  unfold inD at hg
  split at hg
  · obtain ⟨hn, rfl⟩ := ite_ok hg
    obtain ⟨as, r1⟩ := hd.reads I rx
    obtain ⟨bs, r2⟩ := he.reads I ry
    have hn := of_decide_eq_true hn
    have hp := he.plain
    simp only [PyData.plain] at hp
    exact PySem.SeqAt.in_list_data r2 r1 hp (hd.plain d) (by omega) ⟨.bl _, H, I, rfl, hq⟩
  · obtain ⟨hn, rfl⟩ := ite_ok hg
    obtain ⟨as, r1⟩ := hd.reads I rx
    obtain ⟨bs, r2⟩ := he.reads I ry
    have hn := of_decide_eq_true hn
    have hp := he.plain
    simp only [PyData.plain] at hp
    exact PySem.SeqAt.in_tuple_data r2 r1 hp (hd.plain d) (by omega) ⟨.bl _, H, I, rfl, hq⟩
  · cases hg
theorem ob_notIn (hu : X.A.units + 64 < cLine) : OpR X (compareOp .NotIn) (rB X.K (inD true)) := by
  rintro pins s σ H x y v u Q I rx ry ⟨M, d, e, k, hd, he, hg, hq⟩
  unfold inD at hg
  split at hg
  · obtain ⟨hn, rfl⟩ := ite_ok hg
    obtain ⟨as, r1⟩ := hd.reads I rx
    obtain ⟨bs, r2⟩ := he.reads I ry
    have hn := of_decide_eq_true hn
    have hp := he.plain
    simp only [PyData.plain] at hp
    exact PySem.SeqAt.notIn_list_data r2 r1 hp (hd.plain d) (by omega) ⟨.bl _, H, I, rfl, hq⟩
  · obtain ⟨hn, rfl⟩ := ite_ok hg
    obtain ⟨as, r1⟩ := hd.reads I rx
    obtain ⟨bs, r2⟩ := he.reads I ry
    have hn := of_decide_eq_true hn
    have hp := he.plain
    simp only [PyData.plain] at hp
    exact PySem.SeqAt.notIn_tuple_data r2 r1 hp (hd.plain d) (by omega) ⟨.bl _, H, I, rfl, hq⟩
  · cases hg
end
end L2.DL

namespace L2.DL
open PySem PySem.Spec PyProof.Rows

/-! ## subscripts -/
section
variable {K : PySem.W.Frag} {M : Addr → Prop} {H : Hp}
theorem RpA.at {vs : List V} {ds : List D} {i : Int} {d : D} (r : RpA K M H vs ds) (h : atI ds i = some d) : ∃ v, atI vs i = some v ∧ Rp K M H v d := by
  unfold atI at h ⊢
  rw [r.len]
  cases e : ixN ds.length i with
  | none => rw [e] at h; cases h
  | some j =>
    rw [e] at h
    exact r.getD (i := j) h
/-- the items lo to hi -/
def cutD (xs : List D) (lo hi : Option Int) : List D := (xs.drop (HT.sIx xs.length 0 lo)).take (HT.sIx xs.length xs.length hi - HT.sIx xs.length 0 lo)
theorem RpA.cut {vs : List V} {ds : List D} (lo hi : Option Int) (r : RpA K M H vs ds) : RpA K M H (cutV vs lo hi) (cutD ds lo hi) := by
  unfold cutV cutD
  rw [r.len]
  exact (r.drop _).take _
end
def ixD : D → D → Res D
  | .list xs, .int i => match atI xs i with | some d => .ok d | none => stuck
  | .tuple xs, .int i => match atI xs i with | some d => .ok d | none => stuck
  | .str z, .int i => if z.length ≤ lim then (match atI z.cps.toList i with | some c => .ok (.str ⟨#[c]⟩) | none => stuck) else stuck
  | _, _ => stuck
section
variable {X : Cx} {a b e : Expr} {pos p2 : Pos} {fa fb f : EvF}
theorem ix_d : IxR X (rD X.K ixD) := by
  rintro value slice pins s σ H x y v u Q I rx ry ⟨M, d, e, z, hd, he, hm, hg, hq⟩ hs
  unfold ixD at hg
  split at hg
  · split at hg
    · rename_i xs i _ w ew
      cases hg
      cases he
      obtain ⟨p, vs, rfl, n, q, r⟩ := hd.list_inv
      obtain ⟨w, e1, r1⟩ := r.at ew
      exact ix_list value slice pins s σ H _ _ v u Q I rx ry ⟨p, vs, _, w, rfl, rfl, q, e1, hq _ _ (Same.refl _) r1⟩ hs
    · cases hg
  · split at hg
    · rename_i xs i _ w ew
      cases hg
      cases he
      obtain ⟨p, vs, rfl, n, q, r⟩ := hd.tup_inv
      obtain ⟨w, e1, r1⟩ := r.at ew
      exact ix_tup value slice pins s σ H _ _ v u Q I rx ry ⟨p, vs, _, w, rfl, rfl, q, e1, hq _ _ (Same.refl _) r1⟩ hs
    · cases hg
  · split at hg
    · rename_i hl
      split at hg
      · rename_i c ec
        cases hg
        cases he
        cases hd
        exact ix_str value slice pins s σ H _ _ v u Q I rx ry ⟨_, _, c, rfl, rfl, lim_le hl, ec, hq _ _ (Same.refl _) (.str _)⟩ hs
      · cases hg
    · cases hg
  · cases hg
/-- a[b] -/
theorem de_ix (ha : PE X a (tE X.K fa)) (hb : PE X b (tE X.K fb)) (hs : PlainIx b := by exact fun _ _ => rfl) : PE X (.Subscript a b pos) (tE X.K (mOp ixD fa fb)) :=
  PE.by (pe_ix ix_d ha hb hs) fun _ _ _ h => rd_op h
/-- xs[b], xs a list of the def's own -/
def ownAt (i : Nat) (ρ : DEnv) : Res (List D) := match ρ[i]? with | some (some (Sl.own _ xs)) => .ok xs | _ => stuck
theorem ownAt_inv {i : Nat} {ρ : DEnv} {xs : List D} (h : ownAt i ρ = .ok xs) : ∃ b, ρ[i]? = some (some (Sl.own b xs)) := by
  unfold ownAt at h
  split at h
  · rename_i b ys e
    cases h
    exact ⟨b, e⟩
  · cases h
def mIxOwn (i : Nat) (fb : EvF) : EvF := fun ρ => bnd (ownAt i ρ) fun _ => bnd (fb ρ) fun q => bnd (ownAt i q.2) fun xs => bnd (ixD (.list xs) q.1) fun z => .ok (z, q.2)
theorem de_ixOwn (i : Nat) {x : Str} {px : Pos} (hb : PE X b (tE X.K fb)) (hN : X.N[i]? = some x := by rfl) (hv : Vis X.env.scope x := by first | exact Or.inl rfl | exact Or.inr (Or.inl rfl) | exact Or.inr (Or.inr rfl)) (hd : (x == ("__debug__" : Str)) = false := by decide)
    (hcd : (x == ("__classdict__" : Str)) = false := by decide) (hs : PlainIx b := by exact fun _ _ => rfl) : PE X (.Subscript (.Name x px) b pos) (tE X.K (mIxOwn i fb)) := by
  refine PE.by (pe_ix ix_list (pv i hN hv hd hcd) hb hs) ?_
  rintro σ H Q ⟨G, ρ, d, ρ', R, hf, hq⟩
  obtain ⟨_, h0, h⟩ := bnd_inv hf
  obtain ⟨⟨d2, ρ2⟩, h1, h⟩ := bnd_inv h
  obtain ⟨xs, h2, h⟩ := bnd_inv h
  obtain ⟨z, h3, h⟩ := bnd_inv h
  cases h
  obtain ⟨b0, e0⟩ := ownAt_inv h0
  obtain ⟨a0, vs0, s0, _⟩ := R.own i _ _ e0
  refine ⟨_, s0, G, ρ, d2, ρ2, R, h1, fun y H2 R2 r2 => ?_⟩
  obtain ⟨b1, e1⟩ := ownAt_inv h2
  obtain ⟨a1, vs1, s1, hH, hr, _⟩ := R2.own i _ _ e1
  rw [s0] at s1
  cases s1
  unfold ixD at h3
  cases d2 with
  | int j =>
    dsimp only at h3
    split at h3
    · rename_i w ew
      cases h3
      obtain ⟨v, q1, q2⟩ := hr.at ew
      exact ⟨a0, vs1, j, v, rfl, r2.int_inv, SqL.of hH, q1, fun _ => hq _ _ R2 q2⟩
    · cases h3
  | _ => cases h3

/-! ## slices -/
abbrev EvO := DEnv → Res (Option Int × DEnv)
def tOo (K : PySem.W.Frag) (f : EvO) : TO := fun σ H Q => ∃ G ρ o ρ', Rel K G ρ σ H ∧ f ρ = .ok (o, ρ') ∧ ∀ H', Rel K G ρ' σ H' → Q o H'
def mNo : EvO := fun ρ => .ok (none, ρ)
def mSo (f : EvF) : EvO := fun ρ => bnd (f ρ) fun p => match p.1 with | .int i => .ok (some i, p.2) | _ => stuck
theorem do_none : PO X none (tOo X.K mNo) := by
  refine ⟨fun pins s σ H Q I hq => po_none.run pins s σ H Q I ?_⟩
  obtain ⟨G, ρ, o, ρ', R, hf, hq⟩ := hq
  cases hf
  exact hq _ R
theorem PO.imp {e : Option Expr} {t t' : TO} (h : PO X e t) (hh : ∀ σ H Q, t' σ H Q → t σ H Q) : PO X e t' := ⟨fun pins s σ H Q I hq => h.run pins s σ H Q I (hh σ H Q hq)⟩
theorem do_some (h : PE X e (tE X.K f)) : PO X (some e) (tOo X.K (mSo f)) := by
  refine PO.imp (po_some h) ?_
  rintro σ H Q ⟨G, ρ, o, ρ', R, hf, hq⟩
  obtain ⟨⟨d, ρ1⟩, h1, h⟩ := bnd_inv hf
  cases d with
  | int i => cases h; exact ⟨G, ρ, _, _, R, h1, fun v H' R' r => ⟨i, r.int_inv, hq _ R'⟩⟩
  | _ => cases h
def slD (d : D) (lo hi : Option Int) : Res D := match d with
  | .list xs => .ok (.list (cutD xs lo hi))
  | .tuple xs => .ok (.tuple (cutD xs lo hi))
  | _ => stuck
/-- a slice of data -/
def rSlD (K : PySem.W.Frag) : V → Option Int → Option Int → Hp → VK → Prop := fun x lo hi H Q => ∃ (M : Addr → Prop) (d z : D), Rp K M H x d ∧ (∀ a, M a → H a ≠ none) ∧ slD d lo hi = .ok z ∧ ∀ v H', Same H H' → Rp K M H' v z → Q v H'
theorem cut_whole (xs : List D) (lo hi : Option Int) (h : HT.sIx xs.length 0 lo = 0 ∧ HT.sIx xs.length xs.length hi = xs.length) : cutD xs lo hi = xs := by
  unfold cutD
  rw [h.1, h.2, List.drop_zero, Nat.sub_zero, List.take_length]
theorem sl_d : SlR X (rSlD X.K) := by
  rintro pins s σ H x v vl vu lo hi sl Q I rx hs pl pu ⟨M, d, z, hd, hm, hg, hq⟩
  cases d with
  | list xs =>
    cases hg
    obtain ⟨p, vs, rfl, n, q, r⟩ := hd.list_inv
    refine sl_list pins s σ H _ v vl vu lo hi sl Q I rx hs pl pu ⟨p, vs, rfl, q, fun p hp => ?_⟩
    exact hq _ _ (Same.upd hp) (.lst (nM hm hp) (SqL.of upd_same) ((r.cut lo hi).same (Same.upd hp)))
  | tuple xs =>
    cases hg
    obtain ⟨p, vs, rfl, n, q, r⟩ := hd.tup_inv
    refine sl_tupA pins s σ H _ v vl vu lo hi sl Q I rx hs pl pu ⟨p, vs, rfl, q, fun hw => ?_, fun _ p hp => ?_⟩
    · rw [cut_whole xs lo hi (by rw [← r.len]; exact hw)] at hq
      exact hq _ _ (Same.refl _) (.tup n q r)
    · exact hq _ _ (Same.upd hp) (.tup (nM hm hp) (SqT.of upd_same) ((r.cut lo hi).same (Same.upd hp)))
  | _ => cases hg
def mSl (f : EvF) (fl fh : EvO) : EvF := fun ρ => bnd (f ρ) fun p => bnd (fl p.2) fun q => bnd (fh q.2) fun r => bnd (slD p.1 q.1 r.1) fun z => .ok (z, r.2)
variable {lo hi : Option Expr} {fl fh : EvO}
theorem de_slice (he : PE X e (tE X.K f)) (hl : PO X lo (tOo X.K fl)) (hh : PO X hi (tOo X.K fh)) : PE X (.Subscript e (.Slice lo hi none p2) pos) (tE X.K (mSl f fl fh)) := by
  refine PE.by (pe_slice sl_d he hl hh) ?_
  rintro σ H Q ⟨G, ρ, d, ρ', R, hf, hq⟩
  obtain ⟨⟨d1, ρ1⟩, h1, h⟩ := bnd_inv hf
  obtain ⟨⟨o1, ρ2⟩, h2, h⟩ := bnd_inv h
  obtain ⟨⟨o2, ρ3⟩, h3, h⟩ := bnd_inv h
  obtain ⟨z, h4, h⟩ := bnd_inv h
  cases h
  refine ⟨G, ρ, d1, ρ1, R, h1, fun x H1 R1 r1 => ⟨G.hold x d1, ρ1, o1, ρ2, R1.hold r1, h2, fun H2 R2 => ⟨G.hold x d1, ρ2, o2, _, R2, h3, fun H3 R3 => ?_⟩⟩⟩
  obtain ⟨R3, r3⟩ := R3.unhold
  exact ⟨MM G _ σ, d1, d, r3, R3.domM, h4, fun v H' s r kf => hq v H' (R3.same kf s) r⟩
/-- a new list by a slice of a list -/
def mSlL (f : EvF) (fl fh : EvO) : EvA := fun ρ => bnd (f ρ) fun p => bnd (fl p.2) fun q => bnd (fh q.2) fun r => match p.1 with | .list xs => .ok (cutD xs q.1 r.1, r.2) | _ => stuck
theorem Rel.newL {K : PySem.W.Frag} {G : Gh} {ρ : DEnv} {σ : St} {H : Hp} {p : Addr} {vs : List V} {xs : List D} {Q : VK} (R : Rel K G ρ σ H) (hp : H p = none) (kf : KF K (upd H p (.lst vs))) (r : RpA K (MM G ρ σ) H vs xs)
    (hq : ∀ a vs H', Rel K (G.add a) ρ σ H' → H' a = some (.lst vs) → RpA K (MM (G.add a) ρ σ) H' vs xs → ¬ MM G ρ σ a → (∀ o, ¬ G.fx a o) → Q (.ref a) H') : Q (.ref p) (upd H p (.lst vs)) := by
  refine hq p vs _ (R.fresh hp kf) upd_same (((r.off (kf.free upd_same) hp).weak fun b z => mm_add.mp z).same (Same.upd hp)) (R.nown hp) fun o z => ?_
  have := R.keep p o z
  rw [hp] at this
  cases this
theorem dl_slice (he : PE X e (tE X.K f)) (hl : PO X lo (tOo X.K fl)) (hh : PO X hi (tOo X.K fh)) : PE X (.Subscript e (.Slice lo hi none p2) pos) (tL X.K (mSlL f fl fh)) := by
  refine PE.by (pe_slice sl_list he hl hh) ?_
  rintro σ H Q ⟨G, ρ, d, ρ', R, hf, hq⟩
  obtain ⟨⟨d1, ρ1⟩, h1, h⟩ := bnd_inv hf
  obtain ⟨⟨o1, ρ2⟩, h2, h⟩ := bnd_inv h
  obtain ⟨⟨o2, ρ3⟩, h3, h⟩ := bnd_inv h
  cases d1 with
  | list xs =>
    cases h
    refine ⟨G, ρ, _, ρ1, R, h1, fun x H1 R1 r1 => ⟨G.hold x _, ρ1, o1, ρ2, R1.hold r1, h2, fun H2 R2 => ⟨G.hold x _, ρ2, o2, _, R2, h3, fun H3 R3 => ?_⟩⟩⟩
    obtain ⟨R4, r4⟩ := R3.unhold
    obtain ⟨p, vs, e, n, q, r⟩ := r4.list_inv
    exact ⟨p, vs, e, q, fun p' hp kf => R4.newL hp kf (r.cut o1 o2) hq⟩
  | _ => cases h

/-! ## calls of built-ins -/
/-- on a list or a tuple that is read -/
def rSq (K : PySem.W.Frag) (g : Bool × List D → Res D) : List V → Hp → VK → Prop := fun vs H Q => ∃ (M : Addr → Prop) (t : Bool) (a : Addr) (ws : List V) (xs : List D) (z : D), vs = [.ref a] ∧ IsSq K H t a ws ∧ RpA K M H ws xs ∧
  (∀ a, M a → H a ≠ none) ∧ (t = true → ¬ M a) ∧ g (t, xs) = .ok z ∧ ∀ v H', Same H H' → Rp K M H' v z → Q v H'
/-- .. that gives a new list -/
def rSqL (K : PySem.W.Frag) (g : Bool × List D → Res (List D)) : List V → Hp → VK → Prop := fun vs H Q => ∃ (M : Addr → Prop) (t : Bool) (a : Addr) (ws : List V) (xs : List D) (zs : List D), vs = [.ref a] ∧ IsSq K H t a ws ∧ RpA K M H ws xs ∧
  g (t, xs) = .ok zs ∧ ∀ p us, H p = none → RpA K M H us zs → Q (.ref p) (upd H p (.lst us))
/-- on data -/
def rDs (K : PySem.W.Frag) (g : List D → Res D) : List V → Hp → VK → Prop := fun vs H Q => ∃ (M : Addr → Prop) (ds : List D) (z : D), RpA K M H vs ds ∧ (∀ a, M a → H a ≠ none) ∧ g ds = .ok z ∧ ∀ v H', Same H H' → Rp K M H' v z → Q v H'
def mV (g : Bool × List D → Res D) (f : EvV) : EvF := fun ρ => bnd (f ρ) fun p => bnd (g p.1) fun z => .ok (z, p.2)
def mVL (g : Bool × List D → Res (List D)) (f : EvV) : EvA := fun ρ => bnd (f ρ) fun p => bnd (g p.1) fun z => .ok (z, p.2)
def mDs (g : List D → Res D) (fs : EvA) : EvF := fun ρ => bnd (fs ρ) fun p => bnd (g p.1) fun z => .ok (z, p.2)
variable {x : Str} {p : Pos} {es : List Expr} {fs : EvA} {fv : EvV} {g : Bool × List D → Res D} {gl : Bool × List D → Res (List D)} {gd : List D → Res D} {bid T : String}
theorem rd_v {K : PySem.W.Frag} {σ : St} {H : Hp} {Q : VK} (h : tE K (mV g fv) σ H Q) : tCB (rSq K g) (tCons (tW K fv) tNil) σ H fun v H' => KF K H' → Q v H' := by
  obtain ⟨G, ρ, d, ρ', R, hf, hq⟩ := h
  obtain ⟨⟨⟨t, xs⟩, ρ1⟩, h1, h⟩ := bnd_inv hf
  obtain ⟨z, h2, h⟩ := bnd_inv h
  cases h
  exact ⟨G, ρ, t, xs, _, R, h1, fun a vs H' R' hs hr hn => ⟨MM G _ σ, t, a, vs, xs, _, rfl, hs, hr, R'.domM, hn, h2, fun v H'' s r kf => hq v H'' (R'.same kf s) r⟩⟩
theorem rd_vl {K : PySem.W.Frag} {σ : St} {H : Hp} {Q : VK} (h : tL K (mVL gl fv) σ H Q) : tCB (rSqL K gl) (tCons (tW K fv) tNil) σ H fun v H' => KF K H' → Q v H' := by
  obtain ⟨G, ρ, d, ρ', R, hf, hq⟩ := h
  obtain ⟨⟨⟨t, xs⟩, ρ1⟩, h1, h⟩ := bnd_inv hf
  obtain ⟨z, h2, h⟩ := bnd_inv h
  cases h
  exact ⟨G, ρ, t, xs, _, R, h1, fun a vs H' R' hs hr hn => ⟨MM G _ σ, t, a, vs, xs, _, rfl, hs, hr, h2, fun p us hp r kf => R'.newL hp kf r hq⟩⟩
theorem rd_ds {K : PySem.W.Frag} {σ : St} {H : Hp} {Q : VK} (h : tE K (mDs gd fs) σ H Q) : tCB (rDs K gd) (tA K fs) σ H fun v H' => KF K H' → Q v H' := by
  obtain ⟨G, ρ, d, ρ', R, hf, hq⟩ := h
  obtain ⟨⟨ds, ρ1⟩, h1, h⟩ := bnd_inv hf
  obtain ⟨z, h2, h⟩ := bnd_inv h
  cases h
  exact ⟨G, ρ, ds, _, R, h1, fun vs H' R' hr => ⟨MM G _ σ, ds, _, hr, R'.domM, h2, fun v H'' s r kf => hq v H'' (R'.same kf s) r⟩⟩
theorem de_callBv (hc : CallR X (.builtin bid) (rSq X.K g)) (hv' : bootBuiltins x = some (.builtin bid)) (hm : X.mg x = none) (hv : PE X e (tW X.K fv)) (hg : Gl X x := by rfl) (hn : x ≠ "__name__" := by decide) (hdb : (x == ("__debug__" : Str)) = false := by decide)
    (he : starEach (e :: []) X.env = (false, eval e X.env) :: starEach [] X.env := by rfl) (hpl : (backTo pos (starEach [] X.env)).any (·.1) = false := by rfl) : PE X (.Call (.Name x p) [e] [] pos) (tE X.K (mV g fv)) :=
  PE.by (pe_callB hc hg hm hv' (pa_cons hv pa_nil he) hn hdb he hpl) fun _ _ _ h => rd_v h
theorem de_callTv (hc : CallR X (.type T) (rSq X.K g)) (hv' : bootBuiltins x = some (.type T)) (hm : X.mg x = none) (hv : PE X e (tW X.K fv)) (hg : Gl X x := by rfl) (hn : x ≠ "__name__" := by decide) (hdb : (x == ("__debug__" : Str)) = false := by decide)
    (he : starEach (e :: []) X.env = (false, eval e X.env) :: starEach [] X.env := by rfl) (hpl : (backTo pos (starEach [] X.env)).any (·.1) = false := by rfl) : PE X (.Call (.Name x p) [e] [] pos) (tE X.K (mV g fv)) :=
  PE.by (pe_callTy hc hg hm hv' (pa_cons hv pa_nil he) hn hdb he hpl) fun _ _ _ h => rd_v h
theorem dl_callBv (hc : CallR X (.builtin bid) (rSqL X.K gl)) (hv' : bootBuiltins x = some (.builtin bid)) (hm : X.mg x = none) (hv : PE X e (tW X.K fv)) (hg : Gl X x := by rfl) (hn : x ≠ "__name__" := by decide) (hdb : (x == ("__debug__" : Str)) = false := by decide)
    (he : starEach (e :: []) X.env = (false, eval e X.env) :: starEach [] X.env := by rfl) (hpl : (backTo pos (starEach [] X.env)).any (·.1) = false := by rfl) : PE X (.Call (.Name x p) [e] [] pos) (tL X.K (mVL gl fv)) :=
  PE.by (pe_callB hc hg hm hv' (pa_cons hv pa_nil he) hn hdb he hpl) fun _ _ _ h => rd_vl h
theorem dl_callTv (hc : CallR X (.type T) (rSqL X.K gl)) (hv' : bootBuiltins x = some (.type T)) (hm : X.mg x = none) (hv : PE X e (tW X.K fv)) (hg : Gl X x := by rfl) (hn : x ≠ "__name__" := by decide) (hdb : (x == ("__debug__" : Str)) = false := by decide)
    (he : starEach (e :: []) X.env = (false, eval e X.env) :: starEach [] X.env := by rfl) (hpl : (backTo pos (starEach [] X.env)).any (·.1) = false := by rfl) : PE X (.Call (.Name x p) [e] [] pos) (tL X.K (mVL gl fv)) :=
  PE.by (pe_callTy hc hg hm hv' (pa_cons hv pa_nil he) hn hdb he hpl) fun _ _ _ h => rd_vl h
theorem de_callBd (hc : CallR X (.builtin bid) (rDs X.K gd)) (hv' : bootBuiltins x = some (.builtin bid)) (hm : X.mg x = none) (hv : PA X (e :: es) (tA X.K fs)) (hg : Gl X x := by rfl) (hn : x ≠ "__name__" := by decide) (hdb : (x == ("__debug__" : Str)) = false := by decide)
    (he : starEach (e :: es) X.env = (false, eval e X.env) :: starEach es X.env := by rfl) (hpl : (backTo pos (starEach es X.env)).any (·.1) = false := by rfl) : PE X (.Call (.Name x p) (e :: es) [] pos) (tE X.K (mDs gd fs)) :=
  PE.by (pe_callB hc hg hm hv' hv hn hdb he hpl) fun _ _ _ h => rd_ds h
theorem de_callTd (hc : CallR X (.type T) (rDs X.K gd)) (hv' : bootBuiltins x = some (.type T)) (hm : X.mg x = none) (hv : PA X (e :: es) (tA X.K fs)) (hg : Gl X x := by rfl) (hn : x ≠ "__name__" := by decide) (hdb : (x == ("__debug__" : Str)) = false := by decide)
    (he : starEach (e :: es) X.env = (false, eval e X.env) :: starEach es X.env := by rfl) (hpl : (backTo pos (starEach es X.env)).any (·.1) = false := by rfl) : PE X (.Call (.Name x p) (e :: es) [] pos) (tE X.K (mDs gd fs)) :=
  PE.by (pe_callTy hc hg hm hv' hv hn hdb he hpl) fun _ _ _ h => rd_ds h

theorem IsSq.or {K : PySem.W.Frag} {H : Hp} {t : Bool} {a : Addr} {vs : List V} (h : IsSq K H t a vs) : SqL K H a vs ∨ SqT K H a vs := by
  unfold IsSq at h
  cases t with
  | true => rw [if_pos rfl] at h; exact .inr h
  | false => rw [if_neg Bool.false_ne_true] at h; exact .inl h
def lenS : Bool × List D → Res D := fun p => .ok (.int p.2.length)
theorem cd_len : CallR X (.builtin "len") (rSq X.K lenS) := by
  rintro pins s σ H vs us Q I r ⟨M, t, a, ws, xs, z, rfl, hs, hr, hm, hn, hg, hq⟩
  cases hg
  exact call_len_seq pins s σ H _ us Q I r ⟨a, ws, rfl, hs.or, by rw [hr.len]; exact hq _ _ (Same.refl _) (.int _)⟩
def lenStrD : List D → Res D
  | [.str z] => if z.length ≤ lim then .ok (.int z.length) else stuck
  | _ => stuck
theorem cd_lenStr : CallR X (.builtin "len") (rDs X.K lenStrD) := by
  rintro pins s σ H vs us Q I r ⟨M, ds, z, hr, hm, hg, hq⟩
  unfold lenStrD at hg
  split at hg
  · obtain ⟨hl, rfl⟩ := ite_ok hg
    cases hr with
    | cons h1 h2 =>
      cases h2; cases h1
      exact call_len_str pins s σ H _ us Q I r ⟨_, rfl, lim_le hl, hq _ _ (Same.refl _) (.int _)⟩
  · cases hg
def absD : List D → Res D
  | [.int i] => .ok (.int (if i < 0 then -i else i))
  | _ => stuck
theorem cd_abs : CallR X (.builtin "abs") (rDs X.K absD) := by
  rintro pins s σ H vs us Q I r ⟨M, ds, z, hr, hm, hg, hq⟩
  unfold absD at hg
  split at hg
  · cases hg
    cases hr with
    | cons h1 h2 =>
      cases h2; cases h1
      exact call_abs pins s σ H _ us Q I r ⟨_, rfl, hq _ _ (Same.refl _) (.int _)⟩
  · cases hg
def intD : List D → Res D
  | [.int i] => .ok (.int i)
  | [.bool b] => .ok (.int (if b then 1 else 0))
  | _ => stuck
theorem cd_int : CallR X (.type "int") (rDs X.K intD) := by
  rintro pins s σ H vs us Q I r ⟨M, ds, z, hr, hm, hg, hq⟩
  unfold intD at hg
  split at hg
  · cases hg
    cases hr with
    | cons h1 h2 =>
      cases h2; cases h1
      exact call_int1 pins s σ H _ us Q I r (.inl ⟨_, rfl, hq _ _ (Same.refl _) (.int _)⟩)
  · cases hg
    cases hr with
    | cons h1 h2 =>
      cases h2; cases h1
      exact call_int1 pins s σ H _ us Q I r (.inr ⟨_, rfl, hq _ _ (Same.refl _) (.int _)⟩)
  · cases hg
def max2D : List D → Res D
  | [.int i, .int j] => .ok (.int (if j > i then j else i))
  | _ => stuck
def min2D : List D → Res D
  | [.int i, .int j] => .ok (.int (if j < i then j else i))
  | _ => stuck
theorem cd_max2 (hc : X.calm = true) : CallR X (.builtin "max") (rDs X.K max2D) := by
  rintro pins s σ H vs us Q I r ⟨M, ds, z, hr, hm, hg, hq⟩
  unfold max2D at hg
  split at hg
  · cases hg
    cases hr with
    | cons h1 h2 =>
      cases h2 with
      | cons h2 h3 =>
        cases h3; cases h1; cases h2
        exact call_max2 hc pins s σ H _ us Q I r ⟨_, _, rfl, hq _ _ (Same.refl _) (.int _)⟩
  · cases hg
theorem cd_min2 (hc : X.calm = true) : CallR X (.builtin "min") (rDs X.K min2D) := by
  rintro pins s σ H vs us Q I r ⟨M, ds, z, hr, hm, hg, hq⟩
  unfold min2D at hg
  split at hg
  · cases hg
    cases hr with
    | cons h1 h2 =>
      cases h2 with
      | cons h2 h3 =>
        cases h3; cases h1; cases h2
        exact call_min2 hc pins s σ H _ us Q I r ⟨_, _, rfl, hq _ _ (Same.refl _) (.int _)⟩
  · cases hg
/-- tuple(xs) -/
def tupS : Bool × List D → Res D := fun p => .ok (.tuple p.2)
theorem cd_tuple : CallR X (.type "tuple") (rSq X.K tupS) := by
  rintro pins s σ H vs us Q I r ⟨M, t, a, ws, xs, z, rfl, hs, hr, hm, hn, hg, hq⟩
  cases hg
  cases t with
  | false =>
    refine call_tuple_of pins s σ H _ us Q I r ⟨a, ws, rfl, .inl ⟨hs, fun l hl => ?_⟩⟩
    exact hq _ _ (Same.upd hl) (.tup (nM hm hl) (SqT.of upd_same) (hr.same (Same.upd hl)))
  | true =>
    exact call_tuple_of pins s σ H _ us Q I r ⟨a, ws, rfl, .inr ⟨hs, hq _ _ (Same.refl _) (.tup (hn rfl) hs hr)⟩⟩
/-- list(xs) -/
def lstS : Bool × List D → Res (List D) := fun p => .ok p.2
theorem cd_list : CallR X (.type "list") (rSqL X.K lstS) := by
  rintro pins s σ H vs us Q I r ⟨M, t, a, ws, xs, z, rfl, hs, hr, hg, hq⟩
  cases hg
  exact call_list_of pins s σ H _ us Q I r ⟨a, ws, rfl, hs.or, fun l hl => hq l ws hl hr⟩
/-- the numbers, the truths of a list -/
def intsOf : List D → Option (List Int)
  | [] => some []
  | .int i :: r => (intsOf r).map (i :: ·)
  | _ :: _ => none
def boolsOf : List D → Option (List Bool)
  | [] => some []
  | .bool i :: r => (boolsOf r).map (i :: ·)
  | _ :: _ => none
theorem intsOf_map : ∀ ns : List Int, intsOf (ns.map .int) = some ns
  | [] => rfl
  | n :: r => by rw [List.map_cons, intsOf, intsOf_map r]; rfl
theorem boolsOf_map : ∀ ns : List Bool, boolsOf (ns.map .bool) = some ns
  | [] => rfl
  | n :: r => by rw [List.map_cons, boolsOf, boolsOf_map r]; rfl
theorem intsOf_eq : ∀ {ds : List D} {ns : List Int}, intsOf ds = some ns → ds = ns.map .int
  | [], ns, h => by cases h; rfl
  | .int i :: r, ns, h => by
    rw [intsOf] at h
    cases e : intsOf r with
    | none => rw [e] at h; cases h
    | some l => rw [e] at h; cases h; rw [intsOf_eq e]; rfl
  | .none :: _, _, h => by cases h
  | .bool _ :: _, _, h => by cases h
  | .str _ :: _, _, h => by cases h
  | .list _ :: _, _, h => by cases h
  | .tuple _ :: _, _, h => by cases h
  | .dict _ :: _, _, h => by cases h
theorem boolsOf_eq : ∀ {ds : List D} {ns : List Bool}, boolsOf ds = some ns → ds = ns.map .bool
  | [], ns, h => by cases h; rfl
  | .bool i :: r, ns, h => by
    rw [boolsOf] at h
    cases e : boolsOf r with
    | none => rw [e] at h; cases h
    | some l => rw [e] at h; cases h; rw [boolsOf_eq e]; rfl
  | .none :: _, _, h => by cases h
  | .int _ :: _, _, h => by cases h
  | .str _ :: _, _, h => by cases h
  | .list _ :: _, _, h => by cases h
  | .tuple _ :: _, _, h => by cases h
  | .dict _ :: _, _, h => by cases h
theorem rpA_ints {K : PySem.W.Frag} {M : Addr → Prop} {H : Hp} : ∀ {vs : List V} (ns : List Int), RpA K M H vs (ns.map .int) → vs = ns.map V.int
  | _, [], h => by cases h; rfl
  | _, n :: r, h => by
    cases h with
    | cons h1 h2 => rw [h1.int_inv, rpA_ints r h2]; rfl
theorem rpA_bools {K : PySem.W.Frag} {M : Addr → Prop} {H : Hp} : ∀ {vs : List V} (ns : List Bool), RpA K M H vs (ns.map .bool) → vs = ns.map V.bl
  | _, [], h => by cases h; rfl
  | _, n :: r, h => by
    cases h with
    | cons h1 h2 => rw [h1.bool_inv, rpA_bools r h2]; rfl
def sumS : Bool × List D → Res D := fun p => if p.1 = true then stuck else match intsOf p.2 with | some ns => .ok (.int ns.sum) | none => stuck
def allS : Bool × List D → Res D := fun p => if p.1 = true then stuck else match boolsOf p.2 with | some bs => .ok (.bool (bs.all id)) | none => stuck
def anyS : Bool × List D → Res D := fun p => if p.1 = true then stuck else match boolsOf p.2 with | some bs => .ok (.bool (bs.any id)) | none => stuck
theorem cd_sum (hc : X.calm = true) : CallR X (.builtin "sum") (rSq X.K sumS) := by
  rintro pins s σ H vs us Q I r ⟨M, t, a, ws, xs, z, rfl, hs, hr, hm, hn, hg, hq⟩
  unfold sumS at hg
  cases t with
  | true => cases hg
  | false =>
    rw [if_neg Bool.false_ne_true] at hg
    split at hg
    · rename_i ns e
      cases hg
      have e' := intsOf_eq e
      dsimp only at e'
      subst e'
      have := rpA_ints ns hr
      subst this
      exact cr_sum hc pins s σ H _ us Q I r ⟨a, ns, rfl, hs, hq _ _ (Same.refl _) (.int _)⟩
    · cases hg
theorem cd_all (hc : X.calm = true) : CallR X (.builtin "all") (rSq X.K allS) := by
  rintro pins s σ H vs us Q I r ⟨M, t, a, ws, xs, z, rfl, hs, hr, hm, hn, hg, hq⟩
  unfold allS at hg
  cases t with
  | true => cases hg
  | false =>
    rw [if_neg Bool.false_ne_true] at hg
    split at hg
    · rename_i ns e
      cases hg
      have e' := boolsOf_eq e
      dsimp only at e'
      subst e'
      have := rpA_bools ns hr
      subst this
      exact cr_all hc pins s σ H _ us Q I r ⟨a, ns, rfl, hs, hq _ _ (Same.refl _) (.bl _)⟩
    · cases hg
theorem cd_any (hc : X.calm = true) : CallR X (.builtin "any") (rSq X.K anyS) := by
  rintro pins s σ H vs us Q I r ⟨M, t, a, ws, xs, z, rfl, hs, hr, hm, hn, hg, hq⟩
  unfold anyS at hg
  cases t with
  | true => cases hg
  | false =>
    rw [if_neg Bool.false_ne_true] at hg
    split at hg
    · rename_i ns e
      cases hg
      have e' := boolsOf_eq e
      dsimp only at e'
      subst e'
      have := rpA_bools ns hr
      subst this
      exact cr_any hc pins s σ H _ us Q I r ⟨a, ns, rfl, hs, hq _ _ (Same.refl _) (.bl _)⟩
    · cases hg
end

/-! ## isinstance -/
inductive Ty where
  | int | bool | str | tuple | list | dict
def Ty.nm : Ty → String
  | .int => "int" | .bool => "bool" | .str => "str" | .tuple => "tuple" | .list => "list" | .dict => "dict"
def tyD : D → String
  | .none => "NoneType" | .bool _ => "bool" | .int _ => "int" | .str _ => "str" | .list _ => "list" | .tuple _ => "tuple" | .dict _ => "dict"
def isT : Ty → D → Bool
  | .int, .int _ => true
  | .int, .bool _ => true
  | .bool, .bool _ => true
  | .str, .str _ => true
  | .tuple, .tuple _ => true
  | .list, .list _ => true
  | .dict, .dict _ => true
  | _, _ => false
section
theorem kb_none (T : Ty) : kitB "NoneType" T.nm = some false := by cases T <;> decide +kernel
theorem kb_bool (T : Ty) : kitB "bool" T.nm = some (match T with | .int => true | .bool => true | _ => false) := by cases T <;> decide +kernel
theorem kb_int (T : Ty) : kitB "int" T.nm = some (match T with | .int => true | _ => false) := by cases T <;> decide +kernel
theorem kb_str (T : Ty) : kitB "str" T.nm = some (match T with | .str => true | _ => false) := by cases T <;> decide +kernel
theorem kb_list (T : Ty) : kitB "list" T.nm = some (match T with | .list => true | _ => false) := by cases T <;> decide +kernel
theorem kb_tuple (T : Ty) : kitB "tuple" T.nm = some (match T with | .tuple => true | _ => false) := by cases T <;> decide +kernel
theorem kb_dict (T : Ty) : kitB "dict" T.nm = some (match T with | .dict => true | _ => false) := by cases T <;> decide +kernel
theorem kit_d {K : PySem.W.Frag} (T : Ty) (d : D) : PySem.W.kitOne K (.type (tyD d)) (.type T.nm) = some (isT T d) := by
  cases d with
  | none => have q := kb_none T; cases T <;> exact kit_ty q
  | bool b => have q := kb_bool T; cases T <;> exact kit_ty q
  | int b => have q := kb_int T; cases T <;> exact kit_ty q
  | str b => have q := kb_str T; cases T <;> exact kit_ty q
  | list b => have q := kb_list T; cases T <;> exact kit_ty q
  | tuple b => have q := kb_tuple T; cases T <;> exact kit_ty q
  | dict b => have q := kb_dict T; cases T <;> exact kit_ty q
theorem kitAny_d {K : PySem.W.Frag} (d : D) : ∀ Ts : List Ty, PySem.W.kitAny K (.type (tyD d)) (Ts.map fun T => Value.type T.nm) = some (Ts.any fun T => isT T d)
  | [] => rfl
  | T :: Ts => by
    rw [List.map_cons, List.any_cons]
    refine kitAny_cons (kit_d T d) (fun h => ?_) (fun h => ?_)
    · rw [h, kitAny_d d Ts]; rfl
    · rw [h]; rfl
theorem tyX_of {K : PySem.W.Frag} {M : Addr → Prop} {H : Hp} {v : V} {d : D} (h : Rp K M H v d) : TyX K H v (.type (tyD d)) := by
  cases h with
  | non => exact .base .non
  | bl b => exact .base (.bl b)
  | int i => exact .base (.int i)
  | str x => exact .base (.str x)
  | lst n q r =>
    rcases q with (q | ⟨o, q⟩) | ⟨o, its, n', e, c, _⟩
    · exact .base (.lst q)
    · exact .base (.frz q)
    · exact .kList e c
  | tup n q r =>
    rcases q with (q | ⟨o, q⟩) | ⟨o, its, n', e, c, _⟩
    · exact .base (.tup q)
    · exact .fTuple q
    · exact .kTuple e c
variable {X : Cx} {e : Expr} {f : EvF} {p p2 pos : Pos}
def mIsi (T : Ty) (f : EvF) : EvF := fun ρ => bnd (f ρ) fun q => .ok (.bool (isT T q.1), q.2)
def mIsiT (Ts : List Ty) (f : EvF) : EvF := fun ρ => bnd (f ρ) fun q => .ok (.bool (Ts.any fun T => isT T q.1), q.2)
theorem de_isi (T : Ty) {y : Str} (hi : X.mg "isinstance" = none) (hT : X.mg y = none) (he : PE X e (tE X.K f)) (hb : bootBuiltins y = some (.type T.nm) := by decide +kernel) (hg : Gl X "isinstance" := by rfl) (hg2 : Gl X y := by rfl)
    (hn : y ≠ "__name__" := by decide) (hd : (y == ("__debug__" : Str)) = false := by decide)
    (hst : starEach (e :: [.Name y p2]) X.env = (false, eval e X.env) :: starEach [.Name y p2] X.env := by rfl) (hst2 : starEach (.Name y p2 :: []) X.env = (false, eval (.Name y p2) X.env) :: starEach [] X.env := by rfl) (hpl : (backTo pos (starEach [.Name y p2] X.env)).any (·.1) = false := by rfl) :
    PE X (.Call (.Name "isinstance" p) [e, .Name y p2] [] pos) (tE X.K (mIsi T f)) := by
  have hty : PE X (.Name y p2) (tC (.ty T.nm)) := pe_bltn hg2 hT hb rfl hn hd
  refine PE.by (pe_callB call_isi hg hi (by decide +kernel) (pa_cons he (pa_cons hty pa_nil hst2) hst) (by decide) (by decide) hst hpl) ?_
  rintro σ H Q ⟨G, ρ, d, ρ', R, hf, hq⟩
  obtain ⟨⟨d1, ρ1⟩, h1, h⟩ := bnd_inv hf
  cases h
  exact ⟨G, ρ, d1, _, R, h1, fun x H1 R1 r1 => ⟨x, .ty T.nm, _, _, _, rfl, .ty _, tyX_of r1, kit_d T d1, fun _ => hq _ _ R1 (.bl _)⟩⟩
theorem de_isiT2 (T U : Ty) {y z : Str} {p3 : Pos} {k : Nat} {tp : Pos} (hi : X.mg "isinstance" = none) (hT : X.mg y = none) (hU : X.mg z = none) (he : PE X e (tE X.K f)) (hb : bootBuiltins y = some (.type T.nm) := by decide +kernel) (hb2 : bootBuiltins z = some (.type U.nm) := by decide +kernel)
    (hg : Gl X "isinstance" := by rfl) (hg2 : Gl X y := by rfl) (hg3 : Gl X z := by rfl) (hn : y ≠ "__name__" := by decide) (hd : (y == ("__debug__" : Str)) = false := by decide) (hn2 : z ≠ "__name__" := by decide) (hd2 : (z == ("__debug__" : Str)) = false := by decide)
    (hst : starEach (e :: [.Tuple [.Name y p2, .Name z p3] k tp]) X.env = (false, eval e X.env) :: starEach [.Tuple [.Name y p2, .Name z p3] k tp] X.env := by rfl)
    (hst2 : starEach (.Tuple [.Name y p2, .Name z p3] k tp :: []) X.env = (false, eval (.Tuple [.Name y p2, .Name z p3] k tp) X.env) :: starEach [] X.env := by rfl)
    (hst3 : starEach (.Name y p2 :: [.Name z p3]) X.env = (false, eval (.Name y p2) X.env) :: starEach [.Name z p3] X.env := by rfl) (hst4 : starEach (.Name z p3 :: []) X.env = (false, eval (.Name z p3) X.env) :: starEach [] X.env := by rfl)
    (hpl : (backTo pos (starEach [.Tuple [.Name y p2, .Name z p3] k tp] X.env)).any (·.1) = false := by rfl) :
    PE X (.Call (.Name "isinstance" p) [e, .Tuple [.Name y p2, .Name z p3] k tp] [] pos) (tE X.K (mIsiT [T, U] f)) := by
  have hty : PE X (.Name y p2) (tC (.ty T.nm)) := pe_bltn hg2 hT hb rfl hn hd
  have htz : PE X (.Name z p3) (tC (.ty U.nm)) := pe_bltn hg3 hU hb2 rfl hn2 hd2
  refine PE.by (pe_callB call_isiT hg hi (by decide +kernel) (pa_cons he (pa_cons (pe_tup (pa_cons hty (pa_cons htz pa_nil hst4) hst3)) pa_nil hst2) hst) (by decide) (by decide) hst hpl) ?_
  rintro σ H Q ⟨G, ρ, d, ρ', R, hf, hq⟩
  obtain ⟨⟨d1, ρ1⟩, h1, h⟩ := bnd_inv hf
  cases h
  refine ⟨G, ρ, d1, _, R, h1, fun x H1 R1 r1 => ⟨by show 2 ≤ sizeLine; decide, fun q hq1 => ?_⟩⟩
  exact ⟨x, q, [.ty T.nm, .ty U.nm], _, [.type T.nm, .type U.nm], _, rfl, upd_same, .cons (.ty _) (.cons (.ty _) .nil), tyX_of (r1.same (Same.upd hq1)), kitAny_d d1 [T, U], fun kf => hq _ _ (R1.same kf (Same.upd hq1)) (.bl _)⟩
end
end L2.DL

namespace L2.DL
open PySem PySem.Spec PyProof.Rows

/-! ## targets -/
abbrev EvG := D → DEnv → Res DEnv
abbrev EvGs := List D → DEnv → Res DEnv
/-- a target of data: it touches the slots ix alone -/
def tG (K : PySem.W.Frag) (ix : List Nat) (f : EvG) : TG := fun v σ H Q => ∃ G ρ d ρ', Rel K G ρ σ H ∧ Rp K (MM G ρ σ) H v d ∧ f d ρ = .ok ρ' ∧
  ∀ σ', Rel K G ρ' σ' H → wipe σ' ix = wipe σ ix → (∀ b, MM G ρ' σ' b → MM G ρ σ b) → Q σ' H
def tGs (K : PySem.W.Frag) (ix : List Nat) (f : EvGs) : TGs := fun vs σ H Q => ∃ G ρ ds ρ', Rel K G ρ σ H ∧ RpA K (MM G ρ σ) H vs ds ∧ f ds ρ = .ok ρ' ∧
  ∀ σ', Rel K G ρ' σ' H → wipe σ' ix = wipe σ ix → (∀ b, MM G ρ' σ' b → MM G ρ σ b) → Q σ' H
theorem mm_set {G : Gh} {ρ : DEnv} {σ : St} {i : Nat} {d : D} {v : Option V} : ∀ b, MM G (ρ.set i (some (Sl.dat d))) (σ.set i v) b → MM G ρ σ b := fun b z => z.imp id fun ⟨j, q⟩ => ⟨j, (ownAt_set (fun _ _ z => by cases z) q).2⟩
theorem wipe_set {σ : St} {i : Nat} {v : Option V} : ∀ {ix : List Nat}, i ∈ ix → wipe (σ.set i v) ix = wipe σ ix
  | [], h => by cases h
  | j :: ix, h => by
    unfold wipe
    by_cases e : i ∈ ix
    · rw [wipe_set e]
    · have e' : i = j := (List.mem_cons.mp h).resolve_right e
      subst e'
      clear e h
      induction ix generalizing σ with
      | nil => unfold wipe; rw [List.set_set]
      | cons k ix ih =>
        unfold wipe
        by_cases hk : k = i
        · subst hk
          rw [List.set_set, List.set_set]
          exact ih
        · rw [List.set_comm _ _ hk, List.set_comm _ _ hk, ih]
def gN (i : Nat) : EvG := fun d ρ => if i < ρ.length then .ok (ρ.set i (some (Sl.dat d))) else stuck
def gT (gs : EvGs) (n : Nat) : EvG := fun d ρ => match d with | .tuple xs => if xs.length = n then gs xs ρ else stuck | _ => stuck
def gsN : EvGs := fun ds ρ => match ds with | [] => .ok ρ | _ => stuck
def gsC (g : EvG) (gs : EvGs) : EvGs := fun ds ρ => match ds with | d :: r => bnd (g d ρ) fun ρ1 => gs r ρ1 | [] => stuck
section
variable {X : Cx} {tg : Expr} {es : List Expr} {pos : Pos} {g : EvG} {gs : EvGs} {ix : List Nat}
theorem PG.imp {t t' : TG} (h : PG X tg t) (hh : ∀ v σ H Q, t' v σ H Q → t v σ H Q) : PG X tg t' := ⟨fun pins s σ H v u Q I r hq => h.run pins s σ H v u Q I r (hh v σ H Q hq)⟩
theorem PGs.imp {ts : List Expr} {t t' : TGs} (h : PGs X ts t) (hh : ∀ v σ H Q, t' v σ H Q → t v σ H Q) : PGs X ts t' := ⟨fun pins s σ H v u Q I r hq => h.run pins s σ H v u Q I r (hh v σ H Q hq)⟩
theorem dg_name (i : Nat) {x : Str} (hN : X.N.Nodup) (hm : i ∈ ix) (hi : X.N[i]? = some x := by rfl) (hx : Loc X.env.scope x := by first | exact Or.inl rfl | exact Or.inr rfl) (hf : X.fn x = true ∨ X.env.scope.names.lookup x = some .local := by first | exact .inl rfl | exact .inr rfl) :
    PG X (.Name x pos) (tG X.K ix (gN i)) := by
  refine PG.imp (pg_name hN hi hx hf) ?_
  rintro v σ H Q ⟨G, ρ, d, ρ', R, r, hf, hq⟩
  obtain ⟨hl, rfl⟩ := ite_ok hf
  exact hq _ (R.set hl r) (wipe_set hm) mm_set
theorem dgs_nil : PGs X [] (tGs X.K ix gsN) := by
  refine PGs.imp pgs_nil ?_
  rintro vs σ H Q ⟨G, ρ, d, ρ', R, r, hf, hq⟩
  unfold gsN at hf
  split at hf
  · cases hf
    cases r
    exact ⟨rfl, hq _ R rfl fun _ z => z⟩
  · cases hf
theorem dgs_cons {e : Expr} (h1 : PG X e (tG X.K ix g)) (h2 : PGs X es (tGs X.K ix gs)) (hs : (assignEach (e :: es) X.env).map (·.2) = assign e X.env :: (assignEach es X.env).map (·.2) := by rfl) : PGs X (e :: es) (tGs X.K ix (gsC g gs)) := by
  refine PGs.imp (pgs_cons h1 h2 hs) ?_
  rintro vs σ H Q ⟨G, ρ, d, ρ', R, r, hf, hq⟩
  unfold gsC at hf
  split at hf
  · rename_i d r'
    obtain ⟨ρ1, h1, h2⟩ := bnd_inv hf
    cases r with
    | cons ra rb =>
      refine ⟨_, _, rfl, G, ρ, d, ρ1, R, ra, h1, fun σ1 R1 w1 m1 => ?_⟩
      exact ⟨G, ρ1, _, ρ', R1, rb.weak m1, h2, fun σ2 R2 w2 m2 => hq _ R2 (w2.trans w1) fun b z => m1 b (m2 b z)⟩
  · cases hf
theorem dg_tup {k n : Nat} (hc : X.calm = true) (h : PGs X es (tGs X.K ix gs)) (hn : (assignEach es X.env).length = n := by rfl) (hst : (assignEach es X.env).findIdx? (·.1) = none := by rfl) : PG X (.Tuple es k pos) (tG X.K ix (gT gs n)) := by
  refine PG.imp (pg_tup hc h hn hst) ?_
  rintro v σ H Q ⟨G, ρ, d, ρ', R, r, hf, hq⟩
  unfold gT at hf
  split at hf
  · rename_i xs
    split at hf
    · rename_i hl
      obtain ⟨a, vs, rfl, n', q, r⟩ := r.tup_inv
      exact ⟨a, vs, rfl, q, by rw [r.len]; exact hl, G, ρ, xs, ρ', R, r, hf, hq⟩
    · cases hf
  · cases hf
end

/-! ## blocks -/
def mNx : EvS := fun ρ => .ok (.nx, ρ)
def mSeq (f g : EvS) : EvS := fun ρ => bnd (f ρ) fun p => match p.1 with
  | .nx => g p.2
  | c => .ok (c, p.2)
section
variable {X : Cx} {st : Stmt} {sts : List Stmt} {e : Expr} {pos : Pos} {f fc : EvF} {fs gs' : EvS} {fl : EvA}
theorem PSs.imp {t t' : TS} (h : PSs X sts t) (hh : ∀ E σ H, t' E σ H → t E σ H) : PSs X sts t' := ⟨fun pins s σ H E I hq => h.run pins s σ H E I (hh E σ H hq)⟩
theorem PS.imp {t t' : TS} (h : PS X st t) (hh : ∀ E σ H, t' E σ H → t E σ H) : PS X st t' := ⟨fun pins s σ H E I hq => h.run pins s σ H E I (hh E σ H hq)⟩
theorem dss_nil : PSs X [] (tS X.K mNx) := by
  refine PSs.imp pss_nil ?_
  rintro E σ H ⟨G, ρ, c, ρ', R, hf, hq⟩
  cases hf
  exact hq _ _ R
theorem dss_one (h : PS X st (tS X.K fs)) : PSs X [st] (tS X.K fs) := pss_one h
theorem dss_cons (h : PS X st (tS X.K fs)) (h2 : PSs X sts (tS X.K gs')) : PSs X (st :: sts) (tS X.K (mSeq fs gs')) := by
  refine PSs.imp (pss_cons h h2) ?_
  rintro E σ H ⟨G, ρ, c, ρ', R, hf, hq⟩
  obtain ⟨⟨c1, ρ1⟩, h1, h⟩ := bnd_inv hf
  refine ⟨G, ρ, c1, ρ1, R, h1, ?_⟩
  cases c1 with
  | nx => exact fun σ' H' R' => ⟨G, ρ1, c, ρ', R', h, hq⟩
  | bk => cases h; exact hq
  | ct => cases h; exact hq
  | rt d => cases h; exact hq
def mPass : EvS := mNx
theorem ds_pass : PS X (.Pass pos) (tS X.K mNx) := by
  refine PS.imp ps_pass ?_
  rintro E σ H ⟨G, ρ, c, ρ', R, hf, hq⟩
  cases hf
  exact hq _ _ R
def mBk : EvS := fun ρ => .ok (.bk, ρ)
def mCt : EvS := fun ρ => .ok (.ct, ρ)
theorem ds_break : PS X (.Break pos) (tS X.K mBk) := by
  refine PS.imp ps_break ?_
  rintro E σ H ⟨G, ρ, c, ρ', R, hf, hq⟩
  cases hf
  exact hq _ _ R
theorem ds_continue : PS X (.Continue pos) (tS X.K mCt) := by
  refine PS.imp ps_continue ?_
  rintro E σ H ⟨G, ρ, c, ρ', R, hf, hq⟩
  cases hf
  exact hq _ _ R
theorem mb_mm {G : Gh} {ρ : DEnv} {σ : St} : ∀ b, MB G ρ σ b → MM G ρ σ b := fun b z => z.imp id fun ⟨i, xs, h1, h2⟩ => ⟨i, true, xs, h1, h2⟩
/-- return e -/
def mRet (f : EvF) : EvS := fun ρ => bnd (f ρ) fun p => .ok (.rt p.1, p.2)
theorem ds_ret (h : PE X e (tE X.K f)) : PS X (.Return (some e) pos) (tS X.K (mRet f)) := by
  refine PS.imp (ps_ret h) ?_
  rintro E σ H ⟨G, ρ, c, ρ', R, hf, hq⟩
  obtain ⟨⟨d, ρ1⟩, h1, h⟩ := bnd_inv hf
  cases h
  exact ⟨G, ρ, d, _, R, h1, fun v H' R' r => hq σ v H' R' (r.weak mb_mm)⟩
def mRetN : EvS := fun ρ => .ok (.rt .none, ρ)
theorem ds_retN : PS X (.Return none pos) (tS X.K mRetN) := by
  refine PS.imp ps_retN ?_
  rintro E σ H ⟨G, ρ, c, ρ', R, hf, hq⟩
  cases hf
  exact hq σ _ H R .non
/-- a ghost step ahead of a statement: a list of the def's own becomes data -/
def mFrz (i : Nat) (f : EvS) : EvS := fun ρ => match ρ[i]? with
  | some (some (Sl.own false xs)) => f (ρ.set i (some (Sl.dat (.list xs))))
  | _ => stuck
theorem dss_frz (i : Nat) (h : PSs X sts (tS X.K fs)) : PSs X sts (tS X.K (mFrz i fs)) := by
  refine PSs.imp h ?_
  rintro E σ H ⟨G, ρ, c, ρ', R, hf, hq⟩
  unfold mFrz at hf
  split at hf
  · rename_i xs e
    exact ⟨G, _, c, ρ', R.freeze e, hf, hq⟩
  · cases hf
def mIfS (fc : EvF) (f g : EvS) : EvS := fun ρ => bnd (fc ρ) fun p => match p.1 with
  | .bool true => f p.2
  | .bool false => g p.2
  | _ => stuck
theorem ds_if {c : Expr} {a b : List Stmt} (hc : PT X c (tTs X.K fc)) (ha : PSs X a (tS X.K fs)) (hb : PSs X b (tS X.K gs')) : PS X (.If c a b pos) (tS X.K (mIfS fc fs gs')) := by
  refine PS.imp (ps_if hc ha hb) ?_
  rintro E σ H ⟨G, ρ, k, ρ', R, hf, hq⟩
  obtain ⟨⟨d, ρ1⟩, h1, h⟩ := bnd_inv hf
  cases d with
  | bool b =>
    refine ⟨G, ρ, b, ρ1, R, h1, fun H1 R1 => ?_⟩
    cases b with
    | true => rw [if_pos rfl]; exact ⟨G, ρ1, k, ρ', R1, h, hq⟩
    | false => rw [if_neg Bool.false_ne_true]; exact ⟨G, ρ1, k, ρ', R1, h, hq⟩
  | _ => cases h

/-! ## assignments -/
def mSet (i : Nat) (f : EvF) : EvS := fun ρ => bnd (f ρ) fun p => if i < p.2.length then .ok (.nx, p.2.set i (some (Sl.dat p.1))) else stuck
def mSetOwn (i : Nat) (f : EvA) : EvS := fun ρ => bnd (f ρ) fun p => if i < p.2.length then .ok (.nx, p.2.set i (some (Sl.own false p.1))) else stuck
theorem rd_set {K : PySem.W.Frag} {i : Nat} {E : Ends} {σ : St} {H : Hp} (h : tS K (mSet i f) E σ H) : tAsg (tE K f) (gName i) E σ H := by
  obtain ⟨G, ρ, c, ρ', R, hf, hq⟩ := h
  obtain ⟨⟨d, ρ1⟩, h1, h⟩ := bnd_inv hf
  obtain ⟨hl, e⟩ := ite_ok h
  cases e
  exact ⟨G, ρ, d, ρ1, R, h1, fun v H' R' r => hq _ _ (R'.set hl r)⟩
theorem rd_setOwn {K : PySem.W.Frag} {i : Nat} {E : Ends} {σ : St} {H : Hp} (h : tS K (mSetOwn i fl) E σ H) : tAsg (tL K fl) (gName i) E σ H := by
  obtain ⟨G, ρ, c, ρ', R, hf, hq⟩ := h
  obtain ⟨⟨d, ρ1⟩, h1, h⟩ := bnd_inv hf
  obtain ⟨hl, e⟩ := ite_ok h
  cases e
  exact ⟨G, ρ, d, ρ1, R, h1, fun a vs H' R' ha hx hM hf => hq _ _ (R'.setOwn hl ha hx hM hf)⟩
theorem ds_set (i : Nat) {x : Str} {pos' : Pos} (hN : X.N.Nodup) (he : PE X e (tE X.K f)) (hi : X.N[i]? = some x := by rfl) (hx : Loc X.env.scope x := by first | exact Or.inl rfl | exact Or.inr rfl) (hs : swapsWith e (some (.Name x pos')) pos.line X.env = pure false := by rfl) (hf : X.fn x = true ∨ X.env.scope.names.lookup x = some .local := by first | exact .inl rfl | exact .inr rfl) :
    PS X (.Assign [.Name x pos'] e pos) (tS X.K (mSet i f)) := PS.imp (ps_set hN hi hx he hs hf) fun _ _ _ h => rd_set h
theorem ds_setOwn (i : Nat) {x : Str} {pos' : Pos} (hN : X.N.Nodup) (he : PE X e (tL X.K fl)) (hi : X.N[i]? = some x := by rfl) (hx : Loc X.env.scope x := by first | exact Or.inl rfl | exact Or.inr rfl) (hs : swapsWith e (some (.Name x pos')) pos.line X.env = pure false := by rfl) (hf : X.fn x = true ∨ X.env.scope.names.lookup x = some .local := by first | exact .inl rfl | exact .inr rfl) :
    PS X (.Assign [.Name x pos'] e pos) (tS X.K (mSetOwn i fl)) := PS.imp (ps_set hN hi hx he hs hf) fun _ _ _ h => rd_setOwn h
/-- a, b = e, e a tuple -/
def mAsg (f : EvF) (g : EvG) : EvS := fun ρ => bnd (f ρ) fun p => bnd (g p.1 p.2) fun ρ2 => .ok (.nx, ρ2)
theorem ds_asg {tg : Expr} {g : EvG} {ix : List Nat} (he : PE X e (tE X.K f)) (hg : PG X tg (tG X.K ix g)) (hs : swapsWithSole [tg] e pos.line X.env = pure false := by rfl) (hw : swappedStores [tg] e X.env = pure none := by rfl)
    (h1 : (assignEach [tg] X.env).map (·.2) = [assign tg X.env] := by rfl) : PS X (.Assign [tg] e pos) (tS X.K (mAsg f g)) := by
  refine PS.imp (ps_asg he hg hs hw h1) ?_
  rintro E σ H ⟨G, ρ, c, ρ', R, hf, hq⟩
  obtain ⟨⟨d, ρ1⟩, h1, h⟩ := bnd_inv hf
  obtain ⟨ρ2, h2, h⟩ := bnd_inv h
  cases h
  exact ⟨G, ρ, d, ρ1, R, h1, fun v H' R' r => ⟨G, ρ1, d, _, R', r, h2, fun σ' R'' _ _ => hq _ _ R''⟩⟩
/-- x += e -/
def mAug (i : Nat) (g : D → D → Res D) (f : EvF) : EvS := fun ρ => bnd (mVar i ρ) fun p => bnd (f ρ) fun q => bnd (g p.1 q.1) fun z => if i < q.2.length then .ok (.nx, q.2.set i (some (Sl.dat z))) else stuck
theorem ds_aug (i : Nat) {x : Str} {op : Operator} {g : D → D → Res D} {pos' : Pos} (hN : X.N.Nodup) (ho : OpR X (inplaceOp op) (rD X.K g)) (he : PE X e (tE X.K f)) (hi : X.N[i]? = some x := by rfl) (hx : Loc X.env.scope x := by first | exact Or.inl rfl | exact Or.inr rfl)
    (hf : X.fn x = true ∨ X.env.scope.names.lookup x = some .local := by first | exact .inl rfl | exact .inr rfl) : PS X (.AugAssign (.Name x pos') op e pos) (tS X.K (mAug i g f)) := by
  refine PS.by (ps_aug hN hi hx he ho hf) ?_
  rintro E σ H ⟨G, ρ, c, ρ', R, hf, hq⟩
  obtain ⟨⟨d, ρ1⟩, h1, h⟩ := bnd_inv hf
  obtain ⟨⟨d2, ρ2⟩, h2, h⟩ := bnd_inv h
  obtain ⟨z, h3, h⟩ := bnd_inv h
  obtain ⟨hl, e⟩ := ite_ok h
  cases e
  obtain ⟨_, hv⟩ := mVar_inv h1
  obtain ⟨v, s1, r1⟩ := R.dat i d hv
  refine ⟨v, s1, G.hold v d, ρ, d2, ρ2, R.hold r1, h2, fun y H2 R2 r2 => ?_⟩
  obtain ⟨R3, r3⟩ := R2.unhold
  exact ⟨MM G ρ2 σ, d, d2, z, r3, r2, R3.domM, h3, fun v' H' s' r' kf => hq _ _ ((R3.same kf s').set hl r')⟩
def iaddD : D → D → Res D
  | .int i, .int j => .ok (.int (i + j))
  | _, _ => stuck
theorem oi_add : OpR X (inplaceOp .Add) (rD X.K iaddD) := by
  rintro pins s σ H x y v u Q I rx ry ⟨M, d, e, z, hd, he, hm, hg, hq⟩
  unfold iaddD at hg
  split at hg
  · cases hg
    cases hd; cases he
    exact iop_add pins s σ H _ _ v u Q I rx ry ⟨_, _, rfl, rfl, hq _ _ (Same.refl _) (.int _)⟩
  · cases hg
theorem oi_sub : OpR X (inplaceOp .Sub) (rD X.K subD) := by
  rintro pins s σ H x y v u Q I rx ry ⟨M, d, e, z, hd, he, hm, hg, hq⟩
  unfold subD at hg
  split at hg
  · cases hg
    cases hd; cases he
    exact iop_sub pins s σ H _ _ v u Q I rx ry ⟨_, _, rfl, rfl, hq _ _ (Same.refl _) (.int _)⟩
  · cases hg

/-! ## lists of the def's own, changed in place -/
def ownAt2 (i : Nat) (ρ : DEnv) : Res (Bool × List D) := match ρ[i]? with | some (some (Sl.own b xs)) => .ok (b, xs) | _ => stuck
theorem ownAt2_inv {i : Nat} {ρ : DEnv} {p : Bool × List D} (h : ownAt2 i ρ = .ok p) : ρ[i]? = some (some (Sl.own p.1 p.2)) := by
  unfold ownAt2 at h
  split at h
  · rename_i b ys e
    cases h
    exact e
  · cases h
variable {x : Str} {px apos cpos : Pos}
theorem tyV_lst {K : PySem.W.Frag} {H : Hp} {a : Addr} {vs : List V} (h : H a = some (.lst vs)) : tyV K "list" (.ref a) H := Or.inl ⟨rfl, _, Or.inl (Or.inl h)⟩
/-- xs.append(e) -/
def mApp (i : Nat) (f : EvF) : EvS := fun ρ => bnd (ownAt2 i ρ) fun _ => bnd (f ρ) fun q => bnd (ownAt2 i q.2) fun p => if p.2.length < lim then .ok (.nx, q.2.set i (some (Sl.own p.1 (p.2 ++ [q.1])))) else stuck
theorem ds_append (i : Nat) (he : PE X e (tE X.K f)) (hN : X.N[i]? = some x := by rfl) (hv : Vis X.env.scope x := by first | exact Or.inl rfl | exact Or.inr (Or.inl rfl) | exact Or.inr (Or.inr rfl)) (hd : (x == ("__debug__" : Str)) = false := by decide) (hcd : (x == ("__classdict__" : Str)) = false := by decide)
    (hst : starEach (e :: []) X.env = (false, eval e X.env) :: starEach [] X.env := by rfl)
    (hbase : attributeBase (.Name x px) "append" X.env (eval (.Name x px) X.env) = eval (.Name x px) X.env := by rfl)
    (hfew : ((backTo cpos (starEach (e :: []) X.env)).all (fun x => !x.1) && (backToKw cpos (keywordEach [] X.env)).all (fun x => x.1.isSome) && decide ((e :: []).length + ([] : List Keyword).length + (if ([] : List Keyword).isEmpty then 0 else 1) < 30)) = true := by rfl)
    (hline : (apos.endLine == cpos.line) = true := by rfl) (hplain : (backTo cpos (starEach [] X.env)).any (·.1) = false := by rfl) (hsw : swapsWith (.Call (.Attribute (.Name x px) "append" apos) [e] [] cpos) none pos.line X.env = pure false := by rfl) :
    PS X (.Expr (.Call (.Attribute (.Name x px) "append" apos) [e] [] cpos) pos) (tS X.K (mApp i f)) := by
  refine PS.by (ps_expr (pe_bm PySem.F.plainAttrs_list PySem.F.slot_list_append PySem.F.type_list_append mt_append (pv i hN hv hd hcd) (pa_cons he pa_nil hst) hbase hfew hline hst hplain) hsw) ?_
  rintro E σ H ⟨G, ρ, c, ρ', R, hf, hq⟩
  obtain ⟨⟨b0, xs0⟩, h0, h⟩ := bnd_inv hf
  obtain ⟨⟨d, ρ1⟩, h1, h⟩ := bnd_inv h
  obtain ⟨⟨b1, xs1⟩, h2, h⟩ := bnd_inv h
  obtain ⟨hl, e⟩ := ite_ok h
  cases e
  have e0 := ownAt2_inv h0
  have e1 := ownAt2_inv h2
  obtain ⟨a, vs, s0, H0, _⟩ := R.own i _ _ e0
  refine ⟨.ref a, s0, tyV_lst H0, G, ρ, d, ρ1, R, h1, fun y H1 R1 r1 => ?_⟩
  obtain ⟨a1, vs1, s1, hH, hr, _⟩ := R1.own i _ _ e1
  rw [s0] at s1
  cases s1
  refine ⟨a, vs1, y, rfl, rfl, hH, ?_, fun kf => ?_⟩
  · rw [hr.len]
    exact Nat.lt_of_lt_of_le hl (lim_le (Nat.le_refl _))
  · exact hq _ _ (R1.write e1 s0 kf (hr.append (.cons r1 .nil)))
/-- xs.extend(e), e a new list -/
def mExt (i : Nat) (f : EvA) : EvS := fun ρ => bnd (ownAt2 i ρ) fun _ => bnd (f ρ) fun q => bnd (ownAt2 i q.2) fun p => if p.2.length + q.1.length ≤ lim then .ok (.nx, q.2.set i (some (Sl.own p.1 (p.2 ++ q.1)))) else stuck
theorem ds_extend (i : Nat) (he : PE X e (tL X.K fl)) (hN : X.N[i]? = some x := by rfl) (hv : Vis X.env.scope x := by first | exact Or.inl rfl | exact Or.inr (Or.inl rfl) | exact Or.inr (Or.inr rfl)) (hd : (x == ("__debug__" : Str)) = false := by decide) (hcd : (x == ("__classdict__" : Str)) = false := by decide)
    (hst : starEach (e :: []) X.env = (false, eval e X.env) :: starEach [] X.env := by rfl)
    (hbase : attributeBase (.Name x px) "extend" X.env (eval (.Name x px) X.env) = eval (.Name x px) X.env := by rfl)
    (hfew : ((backTo cpos (starEach (e :: []) X.env)).all (fun x => !x.1) && (backToKw cpos (keywordEach [] X.env)).all (fun x => x.1.isSome) && decide ((e :: []).length + ([] : List Keyword).length + (if ([] : List Keyword).isEmpty then 0 else 1) < 30)) = true := by rfl)
    (hline : (apos.endLine == cpos.line) = true := by rfl) (hplain : (backTo cpos (starEach [] X.env)).any (·.1) = false := by rfl) (hsw : swapsWith (.Call (.Attribute (.Name x px) "extend" apos) [e] [] cpos) none pos.line X.env = pure false := by rfl) :
    PS X (.Expr (.Call (.Attribute (.Name x px) "extend" apos) [e] [] cpos) pos) (tS X.K (mExt i fl)) := by
  refine PS.by (ps_expr (pe_bm PySem.F.plainAttrs_list PySem.F.slot_list_extend PySem.F.type_list_extend mt_extend (pv i hN hv hd hcd) (pa_cons he pa_nil hst) hbase hfew hline hst hplain) hsw) ?_
  rintro E σ H ⟨G, ρ, c, ρ', R, hf, hq⟩
  obtain ⟨⟨b0, xs0⟩, h0, h⟩ := bnd_inv hf
  obtain ⟨⟨d, ρ1⟩, h1, h⟩ := bnd_inv h
  obtain ⟨⟨b1, xs1⟩, h2, h⟩ := bnd_inv h
  obtain ⟨hl, e⟩ := ite_ok h
  cases e
  have e0 := ownAt2_inv h0
  have e1 := ownAt2_inv h2
  obtain ⟨a, vs, s0, H0, _⟩ := R.own i _ _ e0
  refine ⟨.ref a, s0, tyV_lst H0, G, ρ, d, ρ1, R, h1, fun a2 vs2 H1 R1 ha2 hx2 hM hf2 => ?_⟩
  have R1' := R1.unadd
  obtain ⟨a1, vs1, s1, hH, hr, _⟩ := R1'.own i _ _ e1
  rw [s0] at s1
  cases s1
  have hx2' := hx2.weak (M' := MM G ρ1 σ) fun b z => mm_add.mpr (.inl z)
  refine ⟨a, a2, vs1, vs2, rfl, rfl, hH, ha2, ?_, fun kf => ?_⟩
  · rw [hr.len, hx2'.len]
    exact lim_le hl
  · exact hq _ _ (R1'.write e1 s0 kf (hr.append hx2'))
/-- xs[e] = v -/
def mStore (i : Nat) (fv fi : EvF) : EvS := fun ρ => bnd (fv ρ) fun v => bnd (ownAt2 i v.2) fun _ => bnd (fi v.2) fun q => bnd (ownAt2 i q.2) fun p => match q.1 with
  | .int k => match ixN p.2.length k with
    | some j => .ok (.nx, q.2.set i (some (Sl.own p.1 (p.2.set j v.1))))
    | none => stuck
  | _ => stuck
theorem ds_store (i : Nat) {b : Expr} {fi : EvF} {spos : Pos} (he : PE X e (tE X.K f)) (hb : PE X b (tE X.K fi)) (hN : X.N[i]? = some x := by rfl) (hv : Vis X.env.scope x := by first | exact Or.inl rfl | exact Or.inr (Or.inl rfl) | exact Or.inr (Or.inr rfl)) (hd : (x == ("__debug__" : Str)) = false := by decide)
    (hcd : (x == ("__classdict__" : Str)) = false := by decide)
    (ha : ∀ v, assign (.Subscript (.Name x px) b spos) X.env v = (do
      let ov ← holding [v] (eval (.Name x px) X.env)
      let iv ← holding [v, ov] (eval b X.env)
      standAt spos
      holding [v, ov, iv] (setItem ov iv v)
      release [v, ov, iv] []) := by intro _; rfl) (hs : swapsWithSole [.Subscript (.Name x px) b spos] e pos.line X.env = pure false := by rfl) (hw : swappedStores [.Subscript (.Name x px) b spos] e X.env = pure none := by rfl)
    (h1 : (assignEach [.Subscript (.Name x px) b spos] X.env).map (·.2) = [assign (.Subscript (.Name x px) b spos) X.env] := by rfl) :
    PS X (.Assign [.Subscript (.Name x px) b spos] e pos) (tS X.K (mStore i f fi)) := by
  refine PS.by (ps_asg he (pg_sub (pv i hN hv hd hcd) hb set_list ha) hs hw h1) ?_
  rintro E σ H ⟨G, ρ, c, ρ', R, hf, hq⟩
  obtain ⟨⟨d, ρ1⟩, h1, h⟩ := bnd_inv hf
  obtain ⟨⟨b0, xs0⟩, h0, h⟩ := bnd_inv h
  obtain ⟨⟨d2, ρ2⟩, h2, h⟩ := bnd_inv h
  obtain ⟨⟨b1, xs1⟩, h3, h⟩ := bnd_inv h
  have e0 := ownAt2_inv h0
  have e1 := ownAt2_inv h3
  cases d2 with
  | int k =>
    dsimp only at h
    split at h
    · rename_i j ej
      cases h
      refine ⟨G, ρ, d, ρ1, R, h1, fun v H1 R1 r1 => ?_⟩
      obtain ⟨a, vs, s0, H0, _⟩ := R1.own i _ _ e0
      refine ⟨.ref a, s0, G.hold v d, ρ1, _, ρ2, R1.hold r1, h2, fun y H2 R2 r2 => ?_⟩
      obtain ⟨R3, r3⟩ := R2.unhold
      obtain ⟨a1, vs1, s1, hH, hr, _⟩ := R3.own i _ _ e1
      rw [s0] at s1
      cases s1
      refine ⟨a, vs1, k, j, rfl, r2.int_inv, hH, by rw [hr.len]; exact ej, fun kf => ?_⟩
      exact hq _ _ (R3.write e1 s0 kf (RpA.set r3 j hr))
    · cases h
  | _ => cases h
/-- xs[k] += e -/
def mAugS (i : Nat) (g : D → D → Res D) (fi f : EvF) : EvS := fun ρ => bnd (ownAt2 i ρ) fun _ => bnd (fi ρ) fun q => bnd (ownAt2 i q.2) fun p => match q.1 with
  | .int k => match atI p.2 k with
    | some old => bnd (f q.2) fun r => bnd (ownAt2 i r.2) fun p2 => match ixN p2.2.length k with
      | some j => bnd (g old r.1) fun z => .ok (.nx, r.2.set i (some (Sl.own p2.1 (p2.2.set j z))))
      | none => stuck
    | none => stuck
  | _ => stuck
theorem get_list : PGet X (rIxL X.K) := by
  intro pins s σ H x y v u Q I rx ry h
  obtain ⟨p, xs, i, z, rfl, rfl, hq, he, q⟩ := h
  cases rx
  obtain ⟨t, rfl⟩ := ry
  obtain ⟨its, r, pl, hz⟩ := I.list hq
  obtain ⟨j, h1, h2, h3, h4, h5⟩ := atI_get he
  obtain ⟨w, ew, rw'⟩ := r.get h2
  have hl := r.length
  have hn := line63
  have fin : EP X pins σ Q w s := ⟨z, H, I, rw', q⟩
  by_cases h0 : 0 ≤ i
  · have hj : i.toNat = j := by
      rw [seqIndex_of h0 h5] at h1
      exact Option.some.inj h1
    exact wpAny_getItem_list pl.isList h0 (by omega) (by rw [hj]; simpa using ew) fin
  · have hj : (i + (its.toArray.size : Int)).toNat = j := by
      rw [seqIndex_neg (by omega) h4] at h1
      rw [List.size_toArray, ← hl]
      exact Option.some.inj h1
    exact wpAny_getItem_list_neg pl.isList (by omega) (by rw [List.size_toArray] <;> omega) (by omega) (by rw [hj]; simpa using ew) fin
theorem ds_augS (i : Nat) {b : Expr} {fi : EvF} {op : Operator} {g : D → D → Res D} {spos : Pos} (ho : OpR X (inplaceOp op) (rD X.K g)) (hb : PE X b (tE X.K fi)) (he : PE X e (tE X.K f)) (hN : X.N[i]? = some x := by rfl)
    (hv : Vis X.env.scope x := by first | exact Or.inl rfl | exact Or.inr (Or.inl rfl) | exact Or.inr (Or.inr rfl)) (hd : (x == ("__debug__" : Str)) = false := by decide) (hcd : (x == ("__classdict__" : Str)) = false := by decide)
    (ha : ∀ ov iv new, augStore b ov iv new = (do holding [new, ov, iv] (setItem ov iv new); release [new, ov, iv] []; pure .next) := by intros; rfl) :
    PS X (.AugAssign (.Subscript (.Name x px) b spos) op e pos) (tS X.K (mAugS i g fi f)) := by
  refine PS.by (ps_augS (pv i hN hv hd hcd) hb get_list he ho set_list ha) ?_
  rintro E σ H ⟨G, ρ, c, ρ', R, hf, hq⟩
  obtain ⟨⟨b0, xs0⟩, h0, h⟩ := bnd_inv hf
  obtain ⟨⟨d, ρ1⟩, h1, h⟩ := bnd_inv h
  obtain ⟨⟨b1, xs1⟩, h2, h⟩ := bnd_inv h
  have e0 := ownAt2_inv h0
  have e1 := ownAt2_inv h2
  cases d with
  | int k =>
    dsimp only at h
    split at h
    · rename_i old eo
      obtain ⟨⟨d3, ρ3⟩, h3, h⟩ := bnd_inv h
      obtain ⟨⟨b4, xs4⟩, h4, h⟩ := bnd_inv h
      have e4 := ownAt2_inv h4
      dsimp only at h
      split at h
      · rename_i j ej
        obtain ⟨z, h5, h⟩ := bnd_inv h
        cases h
        obtain ⟨a, vs, s0, H0, _⟩ := R.own i _ _ e0
        refine ⟨.ref a, s0, G, ρ, _, ρ1, R, h1, fun y H1 R1 r1 => ?_⟩
        obtain ⟨a1, vs1, s1, hH, hr, _⟩ := R1.own i _ _ e1
        rw [s0] at s1
        cases s1
        obtain ⟨vo, q1, q2⟩ := hr.at eo
        refine ⟨a, vs1, k, vo, rfl, r1.int_inv, SqL.of hH, q1, ?_⟩
        refine ⟨G.hold vo old, ρ1, d3, ρ3, R1.hold q2, h3, fun y3 H3 R3 r3 => ?_⟩
        obtain ⟨R4, r4⟩ := R3.unhold
        refine ⟨MM G ρ3 σ, old, d3, z, r4, r3, R4.domM, h5, fun v5 H5 s5 r5 => ?_⟩
        obtain ⟨a6, vs6, s6, hH6, hr6, _⟩ := R4.own i _ _ e4
        rw [s0] at s6
        cases s6
        have ya := r1.int_inv
        refine ⟨a, vs6, k, j, rfl, ya, s5 _ _ hH6, by rw [hr6.len]; exact ej, fun kf => ?_⟩
        have kf5 : KF X.K H5 := fun b o eb => by
          by_cases hba : b = a
          · subst hba
            have := kf b o eb
            rw [upd_same] at this
            cases this
          · have := kf b o eb
            rw [upd_ne hba] at this
            exact this
        have R5 := R4.same kf5 s5
        exact hq _ _ (R5.write e4 s0 kf (RpA.set r5 j (hr6.same s5)))
      · cases h
    · cases h
  | _ => cases h
/-- xs.pop(e), the value used -/
def mPopAt (i : Nat) (f : EvF) : EvF := fun ρ => bnd (ownAt2 i ρ) fun _ => bnd (f ρ) fun q => bnd (ownAt2 i q.2) fun p => match q.1 with
  | .int k => if -1000000 ≤ k ∧ k ≤ 1000000 then (match ixN p.2.length k with
    | some j => match p.2[j]? with
      | some d => .ok (d, q.2.set i (some (Sl.own p.1 (p.2.eraseIdx j))))
      | none => stuck
    | none => stuck) else stuck
  | _ => stuck
theorem ixN_seq {n : Nat} {k : Int} {j : Nat} (h : ixN n k = some j) : seqIndex? k n = some j := by
  unfold ixN at h
  split at h
  · rename_i h0
    split at h
    · rename_i h1
      cases h
      exact seqIndex_of h0 h1
    · cases h
  · split at h
    · rename_i h0 h1
      cases h
      exact seqIndex_neg (by omega) h1
    · cases h
theorem RpA.eraseIdx {K : PySem.W.Frag} {M : Addr → Prop} {H : Hp} : ∀ {vs : List V} {ds : List D} (i : Nat), RpA K M H vs ds → RpA K M H (vs.eraseIdx i) (ds.eraseIdx i)
  | _, _, _, .nil => .nil
  | _, _, 0, .cons _ t => t
  | _, _, i + 1, .cons r t => .cons r (RpA.eraseIdx i t)
theorem de_popAt (i : Nat) (he : PE X e (tE X.K f)) (hN : X.N[i]? = some x := by rfl) (hv : Vis X.env.scope x := by first | exact Or.inl rfl | exact Or.inr (Or.inl rfl) | exact Or.inr (Or.inr rfl)) (hd : (x == ("__debug__" : Str)) = false := by decide) (hcd : (x == ("__classdict__" : Str)) = false := by decide)
    (hst : starEach (e :: []) X.env = (false, eval e X.env) :: starEach [] X.env := by rfl)
    (hbase : attributeBase (.Name x px) "pop" X.env (eval (.Name x px) X.env) = eval (.Name x px) X.env := by rfl)
    (hfew : ((backTo cpos (starEach (e :: []) X.env)).all (fun x => !x.1) && (backToKw cpos (keywordEach [] X.env)).all (fun x => x.1.isSome) && decide ((e :: []).length + ([] : List Keyword).length + (if ([] : List Keyword).isEmpty then 0 else 1) < 30)) = true := by rfl)
    (hline : (apos.endLine == cpos.line) = true := by rfl) (hplain : (backTo cpos (starEach [] X.env)).any (·.1) = false := by rfl) :
    PE X (.Call (.Attribute (.Name x px) "pop" apos) [e] [] cpos) (tE X.K (mPopAt i f)) := by
  refine PE.by (pe_bm PySem.F.plainAttrs_list PySem.F.slot_list_pop PySem.F.type_list_pop mt_popAt (pv i hN hv hd hcd) (pa_cons he pa_nil hst) hbase hfew hline hst hplain) ?_
  rintro σ H Q ⟨G, ρ, z, ρ', R, hf, hq⟩
  obtain ⟨⟨b0, xs0⟩, h0, h⟩ := bnd_inv hf
  obtain ⟨⟨d, ρ1⟩, h1, h⟩ := bnd_inv h
  obtain ⟨⟨b1, xs1⟩, h2, h⟩ := bnd_inv h
  have e0 := ownAt2_inv h0
  have e1 := ownAt2_inv h2
  cases d with
  | int k =>
    dsimp only at h
    split at h
    · rename_i hk
      split at h
      · rename_i j ej
        split at h
        · rename_i w ew
          cases h
          obtain ⟨a, vs, s0, H0, _⟩ := R.own i _ _ e0
          refine ⟨.ref a, s0, tyV_lst H0, G, ρ, _, ρ1, R, h1, fun y H1 R1 r1 => ?_⟩
          obtain ⟨a1, vs1, s1, hH, hr, _⟩ := R1.own i _ _ e1
          rw [s0] at s1
          cases s1
          obtain ⟨wv, q1, q2⟩ := hr.getD ew
          refine ⟨a, vs1, k, j, wv, rfl, by rw [r1.int_inv], hH, by omega, by omega, by rw [hr.len]; exact ixN_seq ej, q1, fun kf => ?_⟩
          have R2 := R1.write e1 s0 kf (hr.eraseIdx j)
          refine hq _ _ R2 (q2.mono (fun b z => ?_) fun c o n ec => ?_)
          · rcases z with z | ⟨i2, b2, ys2, g1, g2⟩
            · exact .inl z
            · refine .inr ⟨i2, ?_⟩
              rcases set_get g1 with ⟨rfl, _⟩ | ⟨ne, g1⟩
              · exact ⟨_, _, e1, g2⟩
              · exact ⟨_, _, g1, g2⟩
          · rw [upd_ne fun q => n (.inr ⟨i, _, _, e1, by rw [q]; exact s0⟩)]
            exact ec
        · cases h
      · cases h
    · cases h
  | _ => cases h
end
end L2.DL

namespace L2.DL
open PySem PySem.Spec PyProof.Rows

/-! ## what is walked -/
structure Ext (G G' : Gh) : Prop where
  m : G'.M = G.M
  b : G'.B = G.B
  fx : ∀ a o, G.fx a o → G'.fx a o
  hd : ∀ v d, G.hd v d → G'.hd v d
theorem Ext.refl (G : Gh) : Ext G G := ⟨rfl, rfl, fun _ _ h => h, fun _ _ h => h⟩
theorem Ext.hold (G : Gh) (v : V) (d : D) : Ext G (G.hold v d) := ⟨rfl, rfl, fun _ _ h => h, fun _ _ h => .inl h⟩
theorem Ext.trans {G G' G'' : Gh} (e : Ext G G') (f : Ext G' G'') : Ext G G'' := ⟨f.m.trans e.m, f.b.trans e.b, fun a o h => f.fx a o (e.fx a o h), fun v d h => f.hd v d (e.hd v d h)⟩
section
variable {K : PySem.W.Frag} {G G' : Gh} {ρ : DEnv} {σ : St} {H : Hp}
theorem Ext.mm (e : Ext G G') : MM G' ρ σ = MM G ρ σ := by unfold MM; rw [e.m]
theorem Ext.mb (e : Ext G G') : MB G' ρ σ = MB G ρ σ := by unfold MB; rw [e.m]
theorem Rel.ext (R : Rel K G' ρ σ H) (e : Ext G G') : Rel K G ρ σ H :=
  ⟨R.len, R.kf, fun a z => R.dom a (by rw [e.m]; exact z), fun i d h => by rw [← e.mm]; exact R.dat i d h, fun i b xs h => by
    obtain ⟨a, vs, h1, h2, h3, h4, h5, h6⟩ := R.own i b xs h
    exact ⟨a, vs, h1, h2, by rw [← e.mm]; exact h3, by rw [← e.m]; exact h4, by rw [← e.b]; exact h5, fun o z => h6 o (e.fx a o z)⟩, R.sep, fun v d h => by rw [← e.mm]; exact R.held v d (e.hd v d h), fun a o h => R.keep a o (e.fx a o h)⟩
end
/-- J yields the data ds, as long as what is held stands -/
def Yields (K : PySem.W.Frag) (hd : V → D → Prop) (J : It) (ds : List D) : Prop := ∀ (M : Addr → Prop) (H : Hp), (∀ v d, hd v d → Rp K M H v d) → (∀ i, i < ds.length → J.go i H) ∧ J.stop ds.length H ∧
  ∀ i x H', i < ds.length → J.yld i H x H' → Same H H' ∧ ∃ d, ds[i]? = some d ∧ ((∀ a, M a → H a ≠ none) → Rp K M H' x d)
def tI (K : PySem.W.Frag) (f : EvA) : TI := fun σ H R => ∃ G ρ ds ρ', Rel K G ρ σ H ∧ f ρ = .ok (ds, ρ') ∧ ∀ G' J H', Rel K G' ρ' σ H' → Ext G G' → Yields K G'.hd J ds → R J H'

def forL (g : EvG) (b : EvS) : List D → DEnv → Res (Ctl × DEnv)
  | [], ρ => .ok (.nx, ρ)
  | d :: ds, ρ => bnd (g d ρ) fun ρ1 => bnd (b ρ1) fun p => match p.1 with
    | .nx => forL g b ds p.2
    | .ct => forL g b ds p.2
    | .bk => .ok (.nx, p.2)
    | .rt d => .ok (.rt d, p.2)
def mFor (f : EvA) (g : EvG) (b : EvS) : EvS := fun ρ => bnd (f ρ) fun p => forL g b p.1 p.2
section
variable {X : Cx} {tg iter : Expr} {body : List Stmt} {pos : Pos} {f : EvA} {g : EvG} {b : EvS} {ix : List Nat}
theorem wantS.ext {K : PySem.W.Frag} {E : Ends} {G G' : Gh} {c : Ctl} {ρ : DEnv} (h : wantS K E G c ρ) (e : Ext G G') : wantS K E G' c ρ := by
  cases c with
  | nx => exact fun σ' H' R => h σ' H' (R.ext e)
  | bk => exact fun σ' H' R => h σ' H' (R.ext e)
  | ct => exact fun σ' H' R => h σ' H' (R.ext e)
  | rt d => exact fun σ' v H' R r => h σ' v H' (R.ext e) (by rw [← e.mb]; exact r)
theorem ds_for (hp : PassesOwn (model X.prog X.w) X.A X.env X.xe) (hc : X.calm = true) (hi : PI X tg iter (tI X.K f)) (hg : PG X tg (tG X.K ix g)) (hb : PSs X body (tS X.K b))
    (hs : ∀ x, foldedSetIterable iter X.env x = pure x := by intro _; rfl) : PS X (.For tg iter body [] pos) (tS X.K (mFor f g b)) := by
  refine PS.by (ps_for hp hc hi (PG.pre hg) hb hs) ?_
  rintro E σ H ⟨G, ρ, c, ρ', R, hf, hq⟩
  obtain ⟨⟨ds, ρ1⟩, h1, h⟩ := bnd_inv hf
  refine ⟨G, ρ, ds, ρ1, R, h1, fun G' J H1 R1 ex Y => ?_⟩
  have hq' := hq.ext ex
  refine ⟨fun i m σ H => m = ds.length - i ∧ i ≤ ds.length ∧ ∃ ρi, Rel X.K G' ρi σ H ∧ forL g b (ds.drop i) ρi = .ok (c, ρ'), ⟨_, rfl, Nat.zero_le _, ρ1, R1, h⟩, ?_⟩
  rintro i m σ2 H2 ⟨rfl, hi, ρi, Ri, hl⟩
  obtain ⟨Y1, Y2, Y3⟩ := Y _ H2 Ri.held
  by_cases hlt : i < ds.length
  · refine .inr ⟨Y1 i hlt, fun σ' H' => ∃ ρ2, Rel X.K G' ρ2 σ' H' ∧ forL g b (ds.drop (i + 1)) ρ2 = .ok (c, ρ'), fun σ' H' ⟨ρ2, R2, h2⟩ => ⟨ds.length - (i + 1), by omega, rfl, hlt, ρ2, R2, h2⟩, fun x H3 y kf => ?_⟩
    obtain ⟨sm, d, hd, r⟩ := Y3 i x H3 hlt y
    rw [List.drop_eq_getElem_cons hlt] at hl
    have ed : ds[i] = d := by rw [List.getElem?_eq_getElem hlt] at hd; exact Option.some.inj hd
    rw [ed] at hl
    obtain ⟨ρ3, h3, hl⟩ := bnd_inv hl
    obtain ⟨⟨c4, ρ4⟩, h4, hl⟩ := bnd_inv hl
    refine ⟨G', ρi, d, ρ3, Ri.same kf sm, r Ri.domM, h3, fun σ4 R4 _ _ => ⟨G', ρ3, c4, ρ4, R4, h4, ?_⟩⟩
    cases c4 with
    | nx => exact fun σ5 H5 R5 => ⟨ρ4, R5, hl⟩
    | ct => exact fun σ5 H5 R5 => ⟨ρ4, R5, hl⟩
    | bk => cases hl; exact fun σ5 H5 R5 _ => hq' σ5 H5 R5
    | rt e => cases hl; exact fun σ5 v H5 R5 r5 _ => hq' σ5 v H5 R5 r5
  · have ei : i = ds.length := by omega
    subst ei
    rw [List.drop_length] at hl
    cases hl
    exact .inl ⟨Y2, fun kf => hq' _ _ Ri⟩

/-! ## while -/
def whileL (c : EvF) (b : EvS) : Nat → DEnv → Res (Ctl × DEnv)
  | 0, _ => stuck
  | n + 1, ρ => bnd (c ρ) fun p => match p.1 with
    | .bool true => bnd (b p.2) fun q => match q.1 with
      | .nx => whileL c b n q.2
      | .ct => whileL c b n q.2
      | .bk => .ok (.nx, q.2)
      | .rt d => .ok (.rt d, q.2)
    | .bool false => .ok (.nx, p.2)
    | _ => stuck
/-- the value of a while that ends, at whatever bound of its turns -/
noncomputable def mWhile (c : EvF) (b : EvS) : EvS := fun ρ => open Classical in if h : ∃ r n, whileL c b n ρ = .ok r then .ok h.choose else stuck
theorem whileL_more {c : EvF} {b : EvS} : ∀ (n : Nat) {ρ : DEnv} {r : Ctl × DEnv}, whileL c b n ρ = .ok r → ∀ m, n ≤ m → whileL c b m ρ = .ok r
  | 0, _, _, h, _, _ => by cases h
  | n + 1, ρ, r, h, 0, hm => by omega
  | n + 1, ρ, r, h, m + 1, hm => by
    obtain ⟨⟨d, ρ1⟩, h1, h⟩ := bnd_inv h
    show bnd (c ρ) _ = _
    rw [h1]
    cases d with
    | bool k =>
      cases k with
      | true =>
        obtain ⟨⟨c2, ρ2⟩, h2, h⟩ := bnd_inv h
        show bnd (b ρ1) _ = _
        rw [h2]
        cases c2 with
        | nx => exact whileL_more n h m (by omega)
        | ct => exact whileL_more n h m (by omega)
        | bk => exact h
        | rt e => exact h
      | false => exact h
    | _ => cases h
theorem mWhile_eq {c : EvF} {b : EvS} {n : Nat} {ρ : DEnv} {r : Ctl × DEnv} (h : whileL c b n ρ = .ok r) : mWhile c b ρ = .ok r := by
  have hx : ∃ r n, whileL c b n ρ = .ok r := ⟨r, n, h⟩
  unfold mWhile
  rw [dif_pos hx]
  obtain ⟨m, hm⟩ := hx.choose_spec
  have a1 := whileL_more n h (max n m) (Nat.le_max_left _ _)
  have a2 := whileL_more m hm (max n m) (Nat.le_max_right _ _)
  rw [a1] at a2
  injection a2 with a2
  rw [a2]
theorem mWhile_inv {c : EvF} {b : EvS} {ρ : DEnv} {r : Ctl × DEnv} (h : mWhile c b ρ = .ok r) : ∃ n, whileL c b n ρ = .ok r := by
  unfold mWhile at h
  split at h
  · rename_i hx
    obtain ⟨m, hm⟩ := hx.choose_spec
    injection h with h
    rw [h] at hm
    exact ⟨m, hm⟩
  · cases h
theorem ds_while {c : Expr} {fc : EvF} (hp : PassesOwn (model X.prog X.w) X.A X.env X.xe) (hc : PT X c (tTs X.K fc)) (hb : PSs X body (tS X.K b)) : PS X (.While c body [] pos) (tS X.K (mWhile fc b)) := by
  refine PS.imp (ps_while hp hc hb) ?_
  rintro E σ H ⟨G, ρ, r, ρ', R, hf, hq⟩
  obtain ⟨n, hn⟩ := mWhile_inv hf
  refine ⟨fun m σ H => ∃ ρm, Rel X.K G ρm σ H ∧ whileL fc b m ρm = .ok (r, ρ'), ⟨n, ρ, R, hn⟩, ?_⟩
  rintro m σ1 H1 ⟨ρ1, R1, h⟩
  cases m with
  | zero => cases h
  | succ m =>
    obtain ⟨⟨d, ρ2⟩, h2, h⟩ := bnd_inv h
    cases d with
    | bool k =>
      refine ⟨G, ρ1, k, ρ2, R1, h2, fun H2 R2 => ?_⟩
      cases k with
      | true =>
        rw [if_pos rfl]
        obtain ⟨⟨c3, ρ3⟩, h3, h⟩ := bnd_inv h
        refine ⟨fun σ' H' => ∃ ρm, Rel X.K G ρm σ' H' ∧ whileL fc b m ρm = .ok (r, ρ'), fun σ' H' z => ⟨m, Nat.lt_succ_self _, z⟩, G, ρ2, c3, ρ3, R2, h3, ?_⟩
        cases c3 with
        | nx => exact fun σ' H' R' => ⟨ρ3, R', h⟩
        | ct => exact fun σ' H' R' => ⟨ρ3, R', h⟩
        | bk => cases h; exact hq
        | rt e => cases h; exact hq
      | false =>
        rw [if_neg Bool.false_ne_true]
        cases h
        exact hq _ _ R2
    | _ => cases h

/-! ## iterables -/
variable {e : Expr} {fe : EvF} {fs : EvA}
def iSq (K : PySem.W.Frag) (te : TE) : TI := fun σ H R => te σ H fun x H1 => ∃ a, x = .ref a ∧ (((∃ xs, SqL K H1 a xs) ∧ R (Itl K a) H1) ∨ ((∃ xs, SqT K H1 a xs) ∧ R (Itt K a) H1))
theorem pi_sq {te : TE} (hl : PE X e te) : PI X tg e (iSq X.K te) := by
  refine ⟨fun pins s σ H R I h => ?_⟩
  refine thn (hl.run pins s σ H _ I h) fun v s1 ⟨x, H1, I1, r1, q1⟩ => ?_
  obtain ⟨a, e, h1 | h1⟩ := q1
  · obtain ⟨⟨xs, hq⟩, q⟩ := h1
    subst e
    cases r1
    obtain ⟨its, rv, p, hz⟩ := I1.list hq
    refine wpAny_pyIter_list p.isList ?_
    refine ⟨s1.heap.objs.size, [s1.heap.objs.size], _, _, H1, rfl, I1.kept (t' := s1.toks) fun b o e => Heap.get?_push_of_some _ e, turn_list a _, ⟨_, Heap.get?_push_size _ rfl, rfl, rfl⟩, fun b hb => ?_, q⟩
    have e : b = s1.heap.objs.size := by simpa using hb
    subst e
    exact I1.fpOk (Nat.le_refl _) (I1.hok.fresh (Nat.le_refl _))
  · obtain ⟨⟨xs, hq⟩, q⟩ := h1
    subst e
    cases r1
    obtain ⟨its, rv, p, hz⟩ := I1.tuple hq
    refine wpAny_pyIter_tuple (show s1.heap.IsTuple a its.toArray from p) ?_
    refine ⟨s1.heap.objs.size, [s1.heap.objs.size], _, _, H1, rfl, I1.kept (t' := s1.toks) fun b o e => Heap.get?_push_of_some _ e, turn_tuple a _, ⟨_, Heap.get?_push_size _ rfl, rfl, rfl⟩, fun b hb => ?_, q⟩
    have e : b = s1.heap.objs.size := by simpa using hb
    subst e
    exact I1.fpOk (Nat.le_refl _) (I1.hok.fresh (Nat.le_refl _))
def mSeqI (f : EvF) : EvA := fun ρ => bnd (f ρ) fun p => bnd (seqD p.1) fun z => .ok (z.2, p.2)
theorem PI.pre {t : TI} (h : PI X tg iter t) : PI X tg iter (fun σ H R => KF X.K H → t σ H R) := ⟨fun pins s σ H R I hq => h.run pins s σ H R I (hq (kf_of I))⟩
theorem PI.imp {t t' : TI} (h : PI X tg iter t) (hh : ∀ σ H R, t' σ H R → t σ H R) : PI X tg iter t' := ⟨fun pins s σ H R I hq => h.run pins s σ H R I (hh σ H R hq)⟩
theorem yields_list {K : PySem.W.Frag} {G : Gh} {a : Addr} {xs : List D} : Yields K (G.hold (.ref a) (.list xs)).hd (Itl K a) xs := by
  intro M H hh
  obtain ⟨a', vs, e, n, q, r⟩ := (hh _ _ (.inr ⟨rfl, rfl⟩)).list_inv
  cases e
  have w := walk_list (K := K) (a := a) (xs := vs)
  refine ⟨fun i hi => w.goes i H (by rw [r.len]; exact hi) q, ?_, fun i x H' hi y => ?_⟩
  · have := w.stops H q
    rw [r.len] at this
    exact this
  · obtain ⟨rfl, hx⟩ := w.yields i H x H' (by rw [r.len]; exact hi) q y
    obtain ⟨d, h1, h2⟩ := r.get hx
    exact ⟨Same.refl _, d, h1, fun _ => h2⟩
theorem yields_tup {K : PySem.W.Frag} {G : Gh} {a : Addr} {xs : List D} : Yields K (G.hold (.ref a) (.tuple xs)).hd (Itt K a) xs := by
  intro M H hh
  obtain ⟨a', vs, e, n, q, r⟩ := (hh _ _ (.inr ⟨rfl, rfl⟩)).tup_inv
  cases e
  have w := walk_tup (K := K) (a := a) (xs := vs)
  refine ⟨fun i hi => w.goes i H (by rw [r.len]; exact hi) q, ?_, fun i x H' hi y => ?_⟩
  · have := w.stops H q
    rw [r.len] at this
    exact this
  · obtain ⟨rfl, hx⟩ := w.yields i H x H' (by rw [r.len]; exact hi) q y
    obtain ⟨d, h1, h2⟩ := r.get hx
    exact ⟨Same.refl _, d, h1, fun _ => h2⟩
theorem di_seq (he : PE X e (tE X.K fe)) : PI X tg e (tI X.K (mSeqI fe)) := by
  refine PI.imp (pi_sq he) ?_
  rintro σ H Rr ⟨G, ρ, ds, ρ', R, hf, hq⟩
  obtain ⟨⟨d, ρ1⟩, h1, h⟩ := bnd_inv hf
  obtain ⟨z, h2, h⟩ := bnd_inv h
  cases h
  refine ⟨G, ρ, d, _, R, h1, fun x H1 R1 r1 => ?_⟩
  cases d with
  | list xs =>
    cases h2
    obtain ⟨a, vs, e, n, q, r⟩ := r1.list_inv
    subst e
    exact ⟨a, rfl, .inl ⟨⟨vs, q⟩, hq _ _ _ (R1.hold r1) (Ext.hold _ _ _) yields_list⟩⟩
  | tuple xs =>
    cases h2
    obtain ⟨a, vs, e, n, q, r⟩ := r1.tup_inv
    subst e
    exact ⟨a, rfl, .inr ⟨⟨vs, q⟩, hq _ _ _ (R1.hold r1) (Ext.hold _ _ _) yields_tup⟩⟩
  | _ => cases h2
/-- range -/
def rngD (lo : Int) (n : Nat) : List D := (List.range n).map fun (i : Nat) => PyData.int (lo + (i : Int))
theorem yields_rng {K : PySem.W.Frag} {hd : V → D → Prop} {lo : Int} {n : Nat} : Yields K hd (Itr lo n) (rngD lo n) := by
  intro M H _
  have hl : (rngD lo n).length = n := by unfold rngD; rw [List.length_map, List.length_range]
  have w := walk_range (lo := lo) (n := n)
  rw [hl]
  refine ⟨fun i hi => w.goes i H hi trivial, w.stops H trivial, fun i x H' hi y => ?_⟩
  obtain ⟨rfl, rfl⟩ := w.yields i H x H' hi trivial y
  refine ⟨Same.refl _, .int (lo + i), ?_, fun _ => .int _⟩
  unfold rngD
  rw [List.getElem?_map, List.getElem?_range hi]
  rfl
def rgOk (i : Int) : Bool := decide (-1000000000 ≤ i ∧ i ≤ 1000000000)
def rng1 : D → Res (List D)
  | .int n => if rgOk n then .ok (rngD 0 n.toNat) else stuck
  | _ => stuck
def rng2 : D → D → Res (List D)
  | .int a, .int b => if rgOk a && rgOk b then .ok (rngD a (b - a).toNat) else stuck
  | _, _ => stuck
def mRng1 (fa : EvF) : EvA := fun ρ => bnd (fa ρ) fun p => bnd (rng1 p.1) fun z => .ok (z, p.2)
def mRng2 (fa fb : EvF) : EvA := fun ρ => bnd (fa ρ) fun p => bnd (fb p.2) fun q => bnd (rng2 p.1 q.1) fun z => .ok (z, q.2)
variable {a c : Expr} {p : Pos} {fa fb : EvF}
theorem di_range1 (hm : X.mg "range" = none) (ha : PE X a (tE X.K fa)) (hg : Gl X "range" := by rfl) (hs : starEach [a] X.env = [(false, eval a X.env)] := by rfl) (hs1 : starEach (a :: []) X.env = (false, eval a X.env) :: starEach [] X.env := by rfl) : PI X tg (.Call (.Name "range" p) [a] [] pos) (tI X.K (mRng1 fa)) := by
  refine PI.imp (pi_range1 hg hm (pa_cons ha pa_nil hs1) hs) ?_
  rintro σ H Rr ⟨G, ρ, ds, ρ', R, hf, hq⟩
  obtain ⟨⟨d, ρ1⟩, h1, h⟩ := bnd_inv hf
  obtain ⟨z, h2, h⟩ := bnd_inv h
  cases h
  refine ⟨G, ρ, d, _, R, h1, fun x H1 R1 r1 => ?_⟩
  cases d with
  | int n =>
    obtain ⟨hn, e⟩ := ite_ok h2
    subst e
    have hn := of_decide_eq_true hn
    exact ⟨n, by rw [r1.int_inv], by omega, by omega, hq _ _ _ R1 (Ext.refl _) yields_rng⟩
  | _ => cases h2
theorem di_range2 (hm : X.mg "range" = none) (ha : PE X a (tE X.K fa)) (hc : PE X c (tE X.K fb)) (hg : Gl X "range" := by rfl) (hs : starEach [a, c] X.env = [(false, eval a X.env), (false, eval c X.env)] := by rfl) (hs2 : starEach [c] X.env = [(false, eval c X.env)] := by rfl)
    (hs1 : starEach (a :: [c]) X.env = (false, eval a X.env) :: starEach [c] X.env := by rfl) (hs3 : starEach (c :: []) X.env = (false, eval c X.env) :: starEach [] X.env := by rfl) : PI X tg (.Call (.Name "range" p) [a, c] [] pos) (tI X.K (mRng2 fa fb)) := by
  refine PI.imp (pi_range2 hg hm (pa_cons ha (pa_cons hc pa_nil hs3) hs1) hs hs2) ?_
  rintro σ H Rr ⟨G, ρ, ds, ρ', R, hf, hq⟩
  obtain ⟨⟨d, ρ1⟩, h1, h⟩ := bnd_inv hf
  obtain ⟨⟨d2, ρ2⟩, h2, h⟩ := bnd_inv h
  obtain ⟨z, h3, h⟩ := bnd_inv h
  cases h
  refine ⟨G, ρ, d, ρ1, R, h1, fun x H1 R1 r1 => ⟨G, ρ1, d2, _, R1, h2, fun y H2 R2 r2 => ?_⟩⟩
  cases d with
  | int n =>
    cases d2 with
    | int m =>
      obtain ⟨hn, e⟩ := ite_ok h3
      subst e
      rw [Bool.and_eq_true] at hn
      have h1 := of_decide_eq_true hn.1
      have h2 := of_decide_eq_true hn.2
      exact ⟨n, m, by rw [r1.int_inv, r2.int_inv], by omega, hq _ _ _ R2 (Ext.refl _) yields_rng⟩
    | _ => cases h3
  | _ => cases h3
end
end L2.DL

namespace L2.DL
open PySem PySem.Spec PyProof.Rows

/-! ## list comprehensions -/
def wipeD (ρ : DEnv) : List Nat → DEnv
  | [] => ρ
  | v :: vs => (wipeD ρ vs).set v none
def restD (ρe ρ0 : DEnv) : List Nat → DEnv
  | [] => ρe
  | v :: vs => match ρ0[v]? with
    | some s => (restD ρe ρ0 vs).set v s
    | none => restD ρe ρ0 vs
def noOwn (ρ : DEnv) (vs : List Nat) : Bool := vs.all fun i => match ρ[i]? with | some (some (Sl.own _ _)) => false | _ => true
def compL (g : EvG) (tt e : EvF) (vs : List Nat) : List D → DEnv → Res (List D × DEnv)
  | [], ρ => .ok ([], ρ)
  | d :: ds, ρ => bnd (g d ρ) fun ρ1 => bnd (tt ρ1) fun q => match q.1 with
    | .bool true => bnd (e q.2) fun r => bnd (compL g tt e vs ds (wipeD r.2 vs)) fun z => .ok (r.1 :: z.1, z.2)
    | .bool false => compL g tt e vs ds (wipeD q.2 vs)
    | _ => stuck
def mComp (f : EvA) (vs : List Nat) (g : EvG) (tt e : EvF) : EvA := fun ρ => bnd (f ρ) fun p => if p.1.length ≤ lim ∧ noOwn p.2 vs = true then
  bnd (compL g tt e vs p.1 (wipeD p.2 vs)) fun z => .ok (z.1, restD z.2 p.2 vs) else stuck

theorem wipe_out {σ : St} {j : Nat} : ∀ {vs : List Nat}, j ∉ vs → (wipe σ vs)[j]? = σ[j]?
  | [], _ => rfl
  | v :: vs, h => by
    unfold wipe
    rw [List.getElem?_set_ne (fun e => h (by rw [e]; exact List.mem_cons_self))]
    exact wipe_out fun z => h (List.mem_cons_of_mem _ z)
theorem wipeD_some {ρ : DEnv} {j : Nat} {x : Sl} : ∀ {vs : List Nat}, (wipeD ρ vs)[j]? = some (some x) → ρ[j]? = some (some x)
  | [], h => h
  | v :: vs, h => by
    unfold wipeD at h
    rcases set_get h with ⟨_, e⟩ | ⟨_, e⟩
    · cases e
    · exact wipeD_some e
theorem wipe_in {σ : St} {j : Nat} {v : V} : ∀ {vs : List Nat}, j ∈ vs → (wipe σ vs)[j]? ≠ some (some v) := fun {vs} h e => (wipe_some e).2 h
theorem wipe_wipe {σ : St} : ∀ {vs : List Nat}, wipe (wipe σ vs) vs = wipe σ vs := by
  intro vs
  refine List.ext_getElem? fun j => ?_
  by_cases h : j ∈ vs
  · have key : ∀ τ : St, j < τ.length → (wipe τ vs)[j]? = some none := fun τ hj => by
      cases e : (wipe τ vs)[j]? with
      | none => rw [List.getElem?_eq_none_iff, wipe_length] at e; omega
      | some o =>
        cases o with
        | none => rfl
        | some v => exact absurd e (wipe_in h)
    by_cases hj : j < σ.length
    · rw [key _ hj, key _ (by rw [wipe_length]; exact hj)]
    · rw [List.getElem?_eq_none (by rw [wipe_length, wipe_length]; omega), List.getElem?_eq_none (by rw [wipe_length]; omega)]
  · rw [wipe_out h]
theorem rest_len {ρe ρ0 : DEnv} : ∀ {vs : List Nat}, (restD ρe ρ0 vs).length = ρe.length
  | [] => rfl
  | v :: vs => by
    unfold restD
    split
    · rw [List.length_set, rest_len]
    · exact rest_len
theorem rest_out {ρe ρ0 : DEnv} {j : Nat} : ∀ {vs : List Nat}, j ∉ vs → (restD ρe ρ0 vs)[j]? = ρe[j]?
  | [], _ => rfl
  | v :: vs, h => by
    unfold restD
    have ih := rest_out (ρe := ρe) (ρ0 := ρ0) (j := j) (vs := vs) fun z => h (List.mem_cons_of_mem _ z)
    split
    · rw [List.getElem?_set_ne (fun e => h (by rw [e]; exact List.mem_cons_self))]
      exact ih
    · exact ih
theorem rest_in {ρe ρ0 : DEnv} {j : Nat} (hl : ρe.length = ρ0.length) : ∀ {vs : List Nat}, j ∈ vs → (restD ρe ρ0 vs)[j]? = ρ0[j]?
  | [], h => by cases h
  | v :: vs, h => by
    unfold restD
    by_cases e : v = j
    · subst e
      split
      · rename_i s es
        have hlt : v < ρ0.length := (List.getElem?_eq_some_iff.mp es).1
        rw [List.getElem?_set_self (by rw [rest_len, hl]; exact hlt), es]
      · rename_i es
        rw [es, List.getElem?_eq_none (by rw [rest_len, hl]; exact List.getElem?_eq_none_iff.mp es)]
    · have ih := rest_in (ρe := ρe) (j := j) hl (vs := vs) ((List.mem_cons.mp h).resolve_left fun z => e z.symm)
      split
      · rw [List.getElem?_set_ne e]
        exact ih
      · exact ih
section
variable {K : PySem.W.Frag} {G : Gh} {ρ : DEnv} {σ : St} {H : Hp}
theorem Rel.wipe (R : Rel K G ρ σ H) : ∀ vs : List Nat, Rel K G (wipeD ρ vs) (wipe σ vs) H
  | [] => R
  | _ :: vs => (R.wipe vs).clear
/-- the slots' data is held -/
def Gh.slots (G : Gh) (ρ : DEnv) (σ : St) : Gh := { G with hd := fun v d => G.hd v d ∨ ∃ j : Nat, ρ[j]? = some (some (Sl.dat d)) ∧ σ[j]? = some (some v) }
theorem Rel.slots (R : Rel K G ρ σ H) : Rel K (G.slots ρ σ) ρ σ H :=
  ⟨R.len, R.kf, R.dom, R.dat, R.own, R.sep, fun v d h => by
    rcases h with h | ⟨j, h1, h2⟩
    · exact R.held v d h
    · obtain ⟨v', e, r⟩ := R.dat j d h1
      rw [h2] at e
      cases e
      exact r, R.keep⟩
theorem Rel.unslots {ρ0 : DEnv} {σ0 : St} (R : Rel K (G.slots ρ0 σ0) ρ σ H) : Rel K G ρ σ H := ⟨R.len, R.kf, R.dom, R.dat, R.own, R.sep, fun v d h => R.held v d (.inl h), R.keep⟩
/-- a list under construction, its items so far -/
def Gh.lock (G : Gh) (p : Addr) (acc : List V) (ds : List D) : Gh := { G with fx := fun a o => G.fx a o ∨ (a = p ∧ o = .lst acc), hd := fun v d => G.hd v d ∨ ∃ j : Nat, acc[j]? = some v ∧ ds[j]? = some d }
variable {p : Addr} {acc : List V} {ds : List D}
theorem Rel.lock (R : Rel K G ρ σ H) (hp : G.M p) (h : H p = some (.lst acc)) (r : RpA K (MM G ρ σ) H acc ds) : Rel K (G.lock p acc ds) ρ σ H :=
  ⟨R.len, R.kf, R.dom, R.dat, fun i b xs e => by
    obtain ⟨a, vs, h1, h2, h3, h4, h5, h6⟩ := R.own i b xs e
    exact ⟨a, vs, h1, h2, h3, h4, h5, fun o z => z.elim (h6 o) fun ⟨q, _⟩ => h4 (by rw [q]; exact hp)⟩, R.sep, fun v d z => by
    rcases z with z | ⟨j, h1, h2⟩
    · exact R.held v d z
    · obtain ⟨d', e, q⟩ := r.get h1
      rw [h2] at e
      cases e
      exact q, fun a o z => by
    rcases z with z | ⟨rfl, rfl⟩
    · exact R.keep a o z
    · exact h⟩
theorem rpA_of {M : Addr → Prop} : ∀ {vs : List V} {ds : List D}, vs.length = ds.length → (∀ (j : Nat) (v : V) (d : D), vs[j]? = some v → ds[j]? = some d → Rp K M H v d) → RpA K M H vs ds
  | [], [], _, _ => .nil
  | [], _ :: _, h, _ => by cases h
  | _ :: _, [], h, _ => by cases h
  | v :: vs, d :: ds, h, q => .cons (q 0 v d rfl rfl) (rpA_of (by simpa using h) fun j x y h1 h2 => q (j + 1) x y (by simpa using h1) (by simpa using h2))
theorem Rel.unlock (R : Rel K (G.lock p acc ds) ρ σ H) (hl : acc.length = ds.length) : Rel K G ρ σ H ∧ H p = some (.lst acc) ∧ RpA K (MM G ρ σ) H acc ds :=
  ⟨⟨R.len, R.kf, R.dom, R.dat, fun i b xs e => by
    obtain ⟨a, vs, h1, h2, h3, h4, h5, h6⟩ := R.own i b xs e
    exact ⟨a, vs, h1, h2, h3, h4, h5, fun o z => h6 o (.inl z)⟩, R.sep, fun v d z => R.held v d (.inl z), fun a o z => R.keep a o (.inl z)⟩, R.keep p _ (.inr ⟨rfl, rfl⟩),
    rpA_of hl fun j v d h1 h2 => R.held v d (.inr ⟨j, h1, h2⟩)⟩
/-- an address that all keeps away from is written -/
theorem Rel.updM (R : Rel K G ρ σ H) {o : HO} (hp : G.M p) (hf : ∀ o, ¬ G.fx p o) (kf : KF K (upd H p o)) : Rel K G ρ σ (upd H p o) := by
  have kp : Keeps (MM G ρ σ) H (upd H p o) := fun a u n e => by rw [upd_ne fun z => n (by rw [z]; exact .inl hp)]; exact e
  refine ⟨R.len, kf, fun a z e => ?_, fun i d h => ?_, fun i b xs h => ?_, R.sep, fun v d h => (R.held v d h).mono (fun _ z => z) kp, fun a u z => ?_⟩
  · by_cases q : a = p
    · subst q; rw [upd_same] at e; cases e
    · rw [upd_ne q] at e; exact R.dom a z e
  · obtain ⟨v, h1, h2⟩ := R.dat i d h
    exact ⟨v, h1, h2.mono (fun _ z => z) kp⟩
  · obtain ⟨a, vs, h1, h2, h3, h4, h5⟩ := R.own i b xs h
    exact ⟨a, vs, h1, by rw [upd_ne fun z => h4 (by rw [z]; exact hp)]; exact h2, h3.mono (fun _ z => z) kp, h4, h5⟩
  · rw [upd_ne fun q => hf u (by rw [← q]; exact z)]
    exact R.keep a u z
theorem kf_upd {o : HO} (kf : KF K H) (h : K.lookup p = none) : KF K (upd H p o) := fun a u e => by
  rw [upd_ne fun z => by rw [z, h] at e; cases e]
  exact kf a u e
/-- the outer slots again -/
theorem Rel.rest {ρ1 ρe : DEnv} {vs : List Nat} {H1 : Hp} (R1 : Rel K G ρ1 σ H1) (hno : noOwn ρ1 vs = true) (R : Rel K ((G.slots ρ1 σ).add p) ρe (L2.wipe σ vs) H) : Rel K (G.add p) (restD ρe ρ1 vs) σ H := by
  have hl : ρe.length = ρ1.length := by rw [R.len, wipe_length, R1.len]
  have nown : ∀ {j b xs}, j ∈ vs → ρ1[j]? ≠ some (some (Sl.own b xs)) := fun {j b xs} hj e => by
    have := List.all_eq_true.mp hno j hj
    rw [e] at this
    cases this
  have ow : ∀ {j a}, OwnAt (restD ρe ρ1 vs) σ j a → j ∉ vs ∧ OwnAt ρe (L2.wipe σ vs) j a := fun {j a} ⟨b, xs, h1, h2⟩ => by
    by_cases hj : j ∈ vs
    · rw [rest_in hl hj] at h1
      exact absurd h1 (nown hj)
    · rw [rest_out hj] at h1
      exact ⟨hj, b, xs, h1, by rw [wipe_out hj]; exact h2⟩
  have w : ∀ b, MM (G.add p) (restD ρe ρ1 vs) σ b → MM ((G.slots ρ1 σ).add p) ρe (L2.wipe σ vs) b := fun b z => z.imp id fun ⟨j, q⟩ => ⟨j, (ow q).2⟩
  refine ⟨by rw [rest_len, hl]; exact R1.len, R.kf, R.dom, fun j d h => ?_, fun j b xs h => ?_, fun i j a h1 h2 => R.sep i j a (ow h1).2 (ow h2).2, fun v d h => (R.held v d (.inl h)).weak w, R.keep⟩
  · by_cases hj : j ∈ vs
    · rw [rest_in hl hj] at h
      obtain ⟨v, e, _⟩ := R1.dat j d h
      exact ⟨v, e, (R.held v d (.inr ⟨j, h, e⟩)).weak w⟩
    · rw [rest_out hj] at h
      obtain ⟨v, e, r⟩ := R.dat j d h
      rw [wipe_out hj] at e
      exact ⟨v, e, r.weak w⟩
  · by_cases hj : j ∈ vs
    · rw [rest_in hl hj] at h
      exact absurd h (nown hj)
    · rw [rest_out hj] at h
      obtain ⟨a, us, h1, h2, h3, h4⟩ := R.own j b xs h
      rw [wipe_out hj] at h1
      exact ⟨a, us, h1, h2, h3.weak w, h4⟩
end
/-- the reading of a comprehension -/
theorem rd_lc {K : PySem.W.Frag} {f : EvA} {g : EvG} {tt ee : EvF} {vs : List Nat} {σ : St} {H : Hp} {Q : VK} (h : tL K (mComp f vs g tt ee) σ H Q) :
    tLc (tI K f) (fun v σ H Q => KF K H → tG K vs g v σ H Q) (tTs K tt) (tE K ee) vs σ H fun v H' => KF K H' → Q v H' := by
  obtain ⟨G, ρ, xs, ρ', R, hf, hq⟩ := h
  obtain ⟨⟨ds, ρ1⟩, h1, h⟩ := bnd_inv hf
  dsimp only at h
  split at h
  · rename_i hc
    obtain ⟨⟨zs, ρe⟩, h2, h⟩ := bnd_inv h
    cases h
    refine ⟨G, ρ, ds, ρ1, R, h1, fun G' J H1 R1 ex Y p hp => ?_⟩
    cases hk : K.lookup p with
    | some o =>
      -- p is never the place of a new list: nothing can be asked
      have hh : ∀ v d, G'.hd v d → Rp K (MM G' ρ1 σ) (upd H1 p (.lst [])) v d := fun v d z => (R1.held v d z).same (Same.upd hp)
      obtain ⟨Y1, Y2, Y3⟩ := Y _ _ hh
      have nk : ∀ {H2 : Hp}, Same (upd H1 p (.lst [])) H2 → ¬ KF K H2 := fun {H2} s kf => by
        have := kf p o hk
        rw [s p _ upd_same] at this
        cases this
      refine ⟨fun i m H2 => i = 0 ∧ H2 = upd H1 p (.lst []), ⟨0, rfl, rfl⟩, ?_⟩
      rintro i m H2 ⟨rfl, rfl⟩
      by_cases h0 : ds.length = 0
      · rw [h0] at Y2
        exact .inl ⟨Y2, fun kf => absurd kf (nk (Same.refl _))⟩
      · refine .inr ⟨Y1 0 (by omega), fun _ => False, fun _ z => z.elim, fun x H3 y kf => absurd kf (nk (Y3 0 x H3 (by omega) y).1)⟩
    | none =>
      let Gb : Gh := (G'.slots ρ1 σ).add p
      have kf1 : KF K (upd H1 p (.lst [])) := kf_upd R1.kf hk
      have Rb : Rel K Gb (wipeD ρ1 vs) (wipe σ vs) (upd H1 p (.lst [])) := (R1.slots.fresh hp kf1).wipe vs
      have fxp : ∀ o, ¬ Gb.fx p o := fun o z => by
        have := R1.keep p o z
        rw [hp] at this
        cases this
      have hMp : Gb.M p := .inr rfl
      refine ⟨fun i m H2 => m = ds.length - i ∧ i ≤ ds.length ∧ ∃ ρi acc ad rs, Rel K Gb ρi (wipe σ vs) H2 ∧ H2 p = some (.lst acc) ∧ RpA K (MM Gb ρi (wipe σ vs)) H2 acc ad ∧ acc.length ≤ i ∧
        compL g tt ee vs (ds.drop i) ρi = .ok (rs, ρe) ∧ zs = ad ++ rs, ⟨_, rfl, Nat.zero_le _, wipeD ρ1 vs, [], [], zs, Rb, upd_same, .nil, Nat.le_refl _, h2, rfl⟩, ?_⟩
      rintro i m H2 ⟨rfl, hi, ρi, acc, ad, rs, Ri, hH, hr, hal, hl, ez⟩
      obtain ⟨Y1, Y2, Y3⟩ := Y _ H2 fun v d z => Ri.held v d (.inl z)
      by_cases hlt : i < ds.length
      · refine .inr ⟨Y1 i hlt, fun H' => ∃ ρi acc ad rs, Rel K Gb ρi (wipe σ vs) H' ∧ H' p = some (.lst acc) ∧ RpA K (MM Gb ρi (wipe σ vs)) H' acc ad ∧ acc.length ≤ i + 1 ∧
          compL g tt ee vs (ds.drop (i + 1)) ρi = .ok (rs, ρe) ∧ zs = ad ++ rs, fun H' z => ⟨ds.length - (i + 1), by omega, rfl, hlt, z⟩, fun x H3 y kf => ?_⟩
        obtain ⟨sm, d, hd, r⟩ := Y3 i x H3 hlt y
        have r := r Ri.domM
        rw [List.drop_eq_getElem_cons hlt] at hl
        have ed : ds[i] = d := by rw [List.getElem?_eq_getElem hlt] at hd; exact Option.some.inj hd
        rw [ed] at hl
        obtain ⟨ρ3, h3, hl⟩ := bnd_inv hl
        obtain ⟨⟨d4, ρ4⟩, h4, hl⟩ := bnd_inv hl
        have R3 : Rel K (Gb.lock p acc ad) ρi (wipe σ vs) H3 := (Ri.same kf sm).lock hMp (sm _ _ hH) (hr.same sm)
        refine ⟨Gb.lock p acc ad, ρi, d, ρ3, R3, r, h3, fun σ4 R4 w4 _ => ⟨w4.trans wipe_wipe, ?_⟩⟩
        cases d4 with
        | bool b =>
          refine ⟨Gb.lock p acc ad, ρ3, b, ρ4, R4, h4, fun H5 R5 => ?_⟩
          have w4' : wipe σ4 vs = wipe σ vs := w4.trans wipe_wipe
          cases b with
          | true =>
            show (if true = true then _ else _)
            rw [if_pos rfl]
            obtain ⟨⟨d6, ρ6⟩, h6, hl⟩ := bnd_inv hl
            obtain ⟨⟨zs7, ρ7⟩, h7, hl⟩ := bnd_inv hl
            cases hl
            refine ⟨Gb.lock p acc ad, ρ4, d6, ρ6, R5, h6, fun y6 H6 R6 r6 => ?_⟩
            obtain ⟨R8, hH8, hr8⟩ := R6.unlock hr.len
            have kf8 : KF K (upd H6 p (.lst (acc ++ [y6]))) := kf_upd R8.kf hk
            have kp : Keeps (MM Gb ρ6 σ4) H6 (upd H6 p (.lst (acc ++ [y6]))) := fun a u n e => by rw [upd_ne fun z => n (by rw [z]; exact .inl hMp)]; exact e
            have R9 := (R8.updM (o := .lst (acc ++ [y6])) hMp fxp kf8).wipe vs
            rw [w4'] at R9
            have wk : ∀ b, MM Gb (wipeD ρ6 vs) (wipe σ vs) b → MM Gb ρ6 σ4 b := fun b z => by
              rcases z with z | ⟨j, b', xs', q1, q2⟩
              · exact .inl z
              · refine .inr ⟨j, b', xs', wipeD_some q1, ?_⟩
                · rw [← w4'] at q2
                  exact (wipe_some q2).1
            refine ⟨acc, hH8, by have := lim_le hc.1; omega, wipeD ρ6 vs, acc ++ [y6], ad ++ [d6], zs7, R9, upd_same, ?_, by rw [List.length_append]; show acc.length + 1 ≤ i + 1; omega, h7, by rw [ez, List.append_assoc]; rfl⟩
            exact (hr8.append (.cons r6 .nil)).mono wk kp
          | false =>
            show (if false = true then _ else _)
            rw [if_neg Bool.false_ne_true]
            obtain ⟨R8, hH8, hr8⟩ := R5.unlock hr.len
            have R9 := R8.wipe vs
            rw [w4'] at R9
            have wk : ∀ b, MM Gb (wipeD ρ4 vs) (wipe σ vs) b → MM Gb ρ4 σ4 b := fun b z => by
              rcases z with z | ⟨j, b', xs', q1, q2⟩
              · exact .inl z
              · refine .inr ⟨j, b', xs', wipeD_some q1, ?_⟩
                · rw [← w4'] at q2
                  exact (wipe_some q2).1
            exact ⟨wipeD ρ4 vs, acc, ad, rs, R9, hH8, hr8.weak wk, by omega, hl, ez⟩
        | _ => cases hl
      · have ei : i = ds.length := by omega
        subst ei
        rw [List.drop_length] at hl
        cases hl
        rw [List.append_nil] at ez
        subst ez
        refine .inl ⟨Y2, fun kf => ?_⟩
        have Rr := R1.rest hc.2 Ri
        have ex' : Ext (G.add p) (G'.add p) := ⟨by unfold Gh.add; dsimp only; rw [ex.m], ex.b, ex.fx, ex.hd⟩
        have Rg := Rr.ext ex'
        have wk : ∀ b, MM (G.add p) (restD ρe ρ1 vs) σ b → MM Gb ρe (wipe σ vs) b := fun b z => by
          have hl : ρe.length = ρ1.length := by rw [Ri.len, wipe_length, R1.len]
          rcases z with z | ⟨j, b', xs', q1, q2⟩
          · refine .inl ?_
            rcases z with z | z
            · exact .inl (by show G'.M b; rw [ex.m]; exact z)
            · exact .inr z
          · by_cases hj : j ∈ vs
            · rw [rest_in hl hj] at q1
              have := List.all_eq_true.mp hc.2 j hj
              rw [q1] at this
              cases this
            · rw [rest_out hj] at q1
              exact .inr ⟨j, b', xs', q1, by rw [wipe_out hj]; exact q2⟩
        refine hq p acc _ Rg hH (hr.weak wk) (fun z => ?_) fun o z => fxp o (ex.fx p o z)
        rcases z with z | ⟨j, b', xs', q1, q2⟩
        · have z' : G'.M p := by rw [ex.m]; exact z
          exact R1.dom p z' hp
        · obtain ⟨a, us, g1, g2, g3, g4, _⟩ := Rg.own j b' xs' q1
          rw [q2] at g1
          cases g1
          exact g4 (.inr rfl)
  · cases h

section
variable {X : Cx} {elt tg iter e : Expr} {ifs : List Expr} {scope : Scope} {own : List (Str × Nat)} {pos spos py : Pos} {f : EvA} {g : EvG} {tt ee : EvF}
theorem dp_nil : PTs X [] (tTs X.K (mC (.bool true))) := by
  refine ⟨fun pins s σ H Q I h => pts_nil.run pins s σ H Q I ?_⟩
  obtain ⟨G, ρ, b, ρ', R, hf, hq⟩ := h
  cases hf
  exact hq _ R
theorem dp_one {c : Expr} (h : PT X c (tTs X.K tt)) : PTs X [c] (tTs X.K tt) := pts_one h
theorem dl_lc (hc : X.calm = true) (hN : X.N.Nodup) (hi : PI X tg iter (tI X.K f)) (ok : BlkOk X.N X.env.scope scope own)
    (hg : ∀ (s : Shared) (H : Hp) (C : Addr) (cl : List (Str × Addr)) (fp : List Addr), PG (X.blk s H scope (compEnvC scope cl C X.env) fp) tg (tG X.K (own.map (·.2)) g))
    (ht : ∀ (s : Shared) (H : Hp) (C : Addr) (cl : List (Str × Addr)) (fp : List Addr), PTs (X.blk s H scope (compEnvC scope cl C X.env) fp) ifs (tTs X.K tt))
    (he : ∀ (s : Shared) (H : Hp) (C : Addr) (cl : List (Str × Addr)) (fp : List Addr), PE (X.blk s H scope (compEnvC scope cl C X.env) fp) elt (tE X.K ee)) (hs : ∀ x, foldedSetIterable iter X.env x = pure x := by intro _; rfl) :
    PE X (.ListComp elt [⟨tg, iter, ifs, 0⟩] scope pos) (tL X.K (mComp f (own.map (·.2)) g tt ee)) :=
  PE.by (pe_lc hc hN hi ok (fun s H C cl fp => PG.pre (hg s H C cl fp)) ht he hs) fun _ _ _ h => rd_lc h
theorem rd_setLc {K : PySem.W.Frag} {i : Nat} {vs : List Nat} {E : Ends} {σ : St} {H : Hp} (h : tS K (mSetOwn i (mComp f vs g tt ee)) E σ H) :
    tAsg (tLc (tI K f) (fun v σ H Q => KF K H → tG K vs g v σ H Q) (tTs K tt) (tE K ee) vs) (gName i) (kfE K E) σ H := rd_lc (Q := fun v H' => E.nx (σ.set i (some v)) H') (rd_setOwn (E := E) h)
theorem rd_setLcD {K : PySem.W.Frag} {i : Nat} {vs : List Nat} {E : Ends} {σ : St} {H : Hp} (h : tS K (mSet i (mOfL (mComp f vs g tt ee))) E σ H) :
    tAsg (tLc (tI K f) (fun v σ H Q => KF K H → tG K vs g v σ H Q) (tTs K tt) (tE K ee) vs) (gName i) (kfE K E) σ H := by
  refine rd_lc (Q := fun v H' => E.nx (σ.set i (some v)) H') ?_
  obtain ⟨G, ρ, c, ρ', R, hf, hq⟩ := h
  obtain ⟨⟨d, ρ1⟩, h1, h⟩ := bnd_inv hf
  obtain ⟨⟨xs, ρ2⟩, h2, h3⟩ := bnd_inv h1
  cases h3
  obtain ⟨hl, e⟩ := ite_ok h
  cases e
  refine ⟨G, ρ, xs, _, R, h2, fun a us H' R' ha hx hM hf => hq _ _ (R'.unadd.set hl ?_)⟩
  exact .lst hM (SqL.of ha) (hx.weak fun b z => mm_add.mpr (.inl z))
/-- y = [..] on one line, y a plain local -/
theorem ds_setLc (i : Nat) {y : Str} (hc : X.calm = true) (hN : X.N.Nodup) (hy : X.N[i]? = some y) (hyl : X.env.scope.names.lookup y = some .local)
    (hsw : swapsWith (.ListComp elt [⟨tg, iter, ifs, 0⟩] scope pos) (some (.Name y py)) spos.line X.env = pure true) (hi : PI X tg iter (tI X.K f)) (ok : BlkOk X.N X.env.scope scope own)
    (hg : ∀ (s : Shared) (H : Hp) (C : Addr) (cl : List (Str × Addr)) (fp : List Addr), PG (X.blk s H scope (compEnvC scope cl C X.env) fp) tg (tG X.K (own.map (·.2)) g))
    (ht : ∀ (s : Shared) (H : Hp) (C : Addr) (cl : List (Str × Addr)) (fp : List Addr), PTs (X.blk s H scope (compEnvC scope cl C X.env) fp) ifs (tTs X.K tt))
    (he : ∀ (s : Shared) (H : Hp) (C : Addr) (cl : List (Str × Addr)) (fp : List Addr), PE (X.blk s H scope (compEnvC scope cl C X.env) fp) elt (tE X.K ee)) (hs : ∀ x, foldedSetIterable iter X.env x = pure x := by intro _; rfl) :
    PS X (.Assign [.Name y py] (.ListComp elt [⟨tg, iter, ifs, 0⟩] scope pos) spos) (tS X.K (mSet i (mOfL (mComp f (own.map (·.2)) g tt ee)))) :=
  PS.by (ps_setLc hc hN hy hyl hsw hi ok (fun s H C cl fp => PG.pre (hg s H C cl fp)) ht he hs) fun _ _ _ h => rd_setLcD h
theorem ds_setOwnLc (i : Nat) {y : Str} (hc : X.calm = true) (hN : X.N.Nodup) (hy : X.N[i]? = some y) (hyl : X.env.scope.names.lookup y = some .local)
    (hsw : swapsWith (.ListComp elt [⟨tg, iter, ifs, 0⟩] scope pos) (some (.Name y py)) spos.line X.env = pure true) (hi : PI X tg iter (tI X.K f)) (ok : BlkOk X.N X.env.scope scope own)
    (hg : ∀ (s : Shared) (H : Hp) (C : Addr) (cl : List (Str × Addr)) (fp : List Addr), PG (X.blk s H scope (compEnvC scope cl C X.env) fp) tg (tG X.K (own.map (·.2)) g))
    (ht : ∀ (s : Shared) (H : Hp) (C : Addr) (cl : List (Str × Addr)) (fp : List Addr), PTs (X.blk s H scope (compEnvC scope cl C X.env) fp) ifs (tTs X.K tt))
    (he : ∀ (s : Shared) (H : Hp) (C : Addr) (cl : List (Str × Addr)) (fp : List Addr), PE (X.blk s H scope (compEnvC scope cl C X.env) fp) elt (tE X.K ee)) (hs : ∀ x, foldedSetIterable iter X.env x = pure x := by intro _; rfl) :
    PS X (.Assign [.Name y py] (.ListComp elt [⟨tg, iter, ifs, 0⟩] scope pos) spos) (tS X.K (mSetOwn i (mComp f (own.map (·.2)) g tt ee))) :=
  PS.by (ps_setLc hc hN hy hyl hsw hi ok (fun s H C cl fp => PG.pre (hg s H C cl fp)) ht he hs) fun _ _ _ h => rd_setLc h
end
end L2.DL

namespace L2.DL
open PySem PySem.Spec PyProof.Rows

/-! ## promises -/
/-- of a def on data -/
def spP (K : PySem.W.Frag) (n : Nat) (m : List D → Res D) : Sp := fun vs H Q _ => vs.length = n ∧ ∃ (M : Addr → Prop) (ds : List D) (d : D), RpA K M H vs ds ∧ (∀ a, M a → H a ≠ none) ∧ m ds = .ok d ∧
  ∀ v H', Same H H' → KF K H' → Rp K M H' v d → Q v H'
/-- of a def that gives a new list -/
def spL (K : PySem.W.Frag) (n : Nat) (m : List D → Res (List D)) : Sp := fun vs H Q _ => vs.length = n ∧ ∃ (M : Addr → Prop) (ds zs : List D), RpA K M H vs ds ∧ (∀ a, M a → H a ≠ none) ∧ m ds = .ok zs ∧
  ∀ a us H', Same H H' → KF K H' → H a = none → H' a = some (.lst us) → RpA K (fun b => M b ∨ b = a) H' us zs → Q (.ref a) H'
/-- of a def whose first argument is a list that it may change -/
def spB (K : PySem.W.Frag) (n : Nat) (m : List D → List D → Res (D × List D)) : Sp := fun vs H Q _ => vs.length = n ∧ ∃ (M : Addr → Prop) (b : Addr) (bvs vs' : List V) (xs ds : List D) (d : D) (xs' : List D), vs = .ref b :: vs' ∧ ¬ M b ∧
  H b = some (.lst bvs) ∧ RpA K (fun a => M a ∨ a = b) H bvs xs ∧ RpA K (fun a => M a ∨ a = b) H vs' ds ∧ (∀ a, M a → H a ≠ none) ∧ m xs ds = .ok (d, xs') ∧
  ∀ v H' bvs', (∀ a o, a ≠ b → H a = some o → H' a = some o) → KF K H' → H' b = some (.lst bvs') → RpA K (fun a => M a ∨ a = b) H' bvs' xs' → Rp K (fun a => M a ∨ a = b) H' v d → Q v H'
structure Has (P : Program) (w : World) (K : PySem.W.Frag) (mg : Str → Option Value) (base : Heap) (k : Nat) (x : Str) (sp : Sp) : Prop where
  ex : ∃ (f : Addr) (fd : FuncData) (ps : List Str), mg x = some (.ref f) ∧ PySem.W.keepIn K (.ref f) = true ∧ Binds K fd ps [] ∧ FnOk P w K mg base CX0 k f fd ps sp

section
variable {X : Cx} {x : Str} {p pos : Pos} {e : Expr} {es : List Expr} {fs : EvA} {n k : Nat} {m : List D → Res D} {ml : List D → Res (List D)} {mb : List D → List D → Res (D × List D)}
def mCall (n : Nat) (m : List D → Res D) (fs : EvA) : EvF := fun ρ => bnd (fs ρ) fun p => if p.1.length = n then bnd (m p.1) fun d => .ok (d, p.2) else stuck
theorem rd_call {K : PySem.W.Frag} {σ : St} {H : Hp} {Q : VK} (h : tE K (mCall n m fs) σ H Q) : tCall (spP K n m) [] E0 (tA K fs) σ H Q := by
  obtain ⟨G, ρ, d, ρ', R, hf, hq⟩ := h
  obtain ⟨⟨ds, ρ1⟩, h1, h⟩ := bnd_inv hf
  dsimp only at h
  split at h
  · rename_i hn
    obtain ⟨z, h2, h⟩ := bnd_inv h
    cases h
    refine ⟨G, ρ, ds, _, R, h1, fun vs H1 R1 r1 => ?_⟩
    simp only [List.append_nil]
    exact ⟨by rw [r1.len]; exact hn, MM G _ σ, ds, _, r1, R1.domM, h2, fun v H' s kf r => hq v H' (R1.same kf s) r⟩
  · cases h
theorem de_call (h : Has X.prog X.w X.K X.mg X.base k x (spP X.K n m)) (hr : Room k X.A) (ha : PA X (e :: es) (tA X.K fs)) (hg : Gl X x := by rfl) (hdb : (x == ("__debug__" : Str)) = false := by decide)
    (he : starEach (e :: es) X.env = (false, eval e X.env) :: starEach es X.env := by rfl) (hpl : (backTo pos (starEach es X.env)).any (·.1) = false := by rfl) : PE X (.Call (.Name x p) (e :: es) [] pos) (tE X.K (mCall n m fs)) := by
  obtain ⟨f, fd, ps, hm, hk, hb, F⟩ := h.ex
  exact ⟨fun pins s σ H Q I hq => (pe_call F hr hg hm hk hb .nil pass0 ha hdb he hpl).run pins s σ H Q I (rd_call hq)⟩
theorem de_call0 (h : Has X.prog X.w X.K X.mg X.base k x (spP X.K n m)) (hr : Room k X.A) (hg : Gl X x := by rfl) (hdb : (x == ("__debug__" : Str)) = false := by decide) : PE X (.Call (.Name x p) [] [] pos) (tE X.K (mCall n m mNil)) := by
  obtain ⟨f, fd, ps, hm, hk, hb, F⟩ := h.ex
  refine ⟨fun pins s σ H Q I hq => (pe_call0 F hr hg hm hk hb .nil pass0 hdb).run pins s σ H Q I ?_⟩
  have q := rd_call hq
  obtain ⟨G, ρ, d, ρ', R, hf, hq⟩ := q
  cases hf
  exact hq _ _ R .nil
/-- a def that gives a new list -/
def mCallL (n : Nat) (m : List D → Res (List D)) (fs : EvA) : EvA := fun ρ => bnd (fs ρ) fun p => if p.1.length = n then bnd (m p.1) fun d => .ok (d, p.2) else stuck
theorem Rel.freshS {K : PySem.W.Frag} {G : Gh} {ρ : DEnv} {σ : St} {H H' : Hp} {a : Addr} {o : HO} (R : Rel K G ρ σ H) (hp : H a = none) (s : Same H H') (kf : KF K H') (ha : H' a = some o) : Rel K (G.add a) ρ σ H' := by
  refine (R.fresh (o := o) hp (kf_upd R.kf (kf.free ha))).same kf fun b u e => ?_
  by_cases q : b = a
  · subst q; rw [upd_same] at e; cases e; exact ha
  · rw [upd_ne q] at e; exact s b u e
theorem dl_call (h : Has X.prog X.w X.K X.mg X.base k x (spL X.K n ml)) (hr : Room k X.A) (ha : PA X (e :: es) (tA X.K fs)) (hg : Gl X x := by rfl) (hdb : (x == ("__debug__" : Str)) = false := by decide)
    (he : starEach (e :: es) X.env = (false, eval e X.env) :: starEach es X.env := by rfl) (hpl : (backTo pos (starEach es X.env)).any (·.1) = false := by rfl) : PE X (.Call (.Name x p) (e :: es) [] pos) (tL X.K (mCallL n ml fs)) := by
  obtain ⟨f, fd, ps, hm, hk, hb, F⟩ := h.ex
  refine ⟨fun pins s σ H Q I hq => (pe_call F hr hg hm hk hb .nil pass0 ha hdb he hpl).run pins s σ H Q I ?_⟩
  obtain ⟨G, ρ, d, ρ', R, hf, hq⟩ := hq
  obtain ⟨⟨ds, ρ1⟩, h1, h⟩ := bnd_inv hf
  dsimp only at h
  split at h
  · rename_i hn
    obtain ⟨z, h2, h⟩ := bnd_inv h
    cases h
    refine ⟨G, ρ, ds, _, R, h1, fun vs H1 R1 r1 => ?_⟩
    simp only [List.append_nil]
    refine ⟨by rw [r1.len]; exact hn, MM G _ σ, ds, _, r1, R1.domM, h2, fun a us H' s kf ha' hu r => ?_⟩
    refine hq a us H' (R1.freshS ha' s kf hu) hu (r.weak fun b z => mm_add.mp z) (R1.nown ha') fun o z => ?_
    have := R1.keep a o z
    rw [ha'] at this
    cases this
  · cases h
/-- a def that may change the list in slot i -/
def mCallB (n : Nat) (m : List D → List D → Res (D × List D)) (i : Nat) (fs : EvA) : EvF := fun ρ => bnd (ownAt2 i ρ) fun _ => bnd (fs ρ) fun p => bnd (ownAt2 i p.2) fun q => if p.1.length + 1 = n then
  bnd (m q.2 p.1) fun r => .ok (r.1, p.2.set i (some (Sl.own q.1 r.2))) else stuck
/-- a list of the def's own is changed by someone else, the heap having grown -/
theorem write_to {K : PySem.W.Frag} {G : Gh} {ρ : DEnv} {σ : St} {H H' : Hp} {a : Addr} {i : Nat} {b : Bool} {xs xs' : List D} {vs' : List V} (R : Rel K G ρ σ H) (hi : ρ[i]? = some (some (Sl.own b xs))) (hs : σ[i]? = some (some (V.ref a))) (kf : KF K H')
    (sm : Same (upd H a (.lst vs')) H') (ha : H' a = some (.lst vs')) (hx : RpA K (MM G ρ σ) H' vs' xs') : Rel K G (ρ.set i (some (Sl.own b xs'))) σ H' := by
  -- the list is first said to be empty, then the heap grows, then its contents come
  have kfa : K.lookup a = none := kf.free ha
  have R1 := R.write hi hs (kf_upd (o := .lst []) R.kf kfa) (xs' := []) (vs' := []) .nil
  have e1 : (ρ.set i (some (Sl.own b ([] : List D))))[i]? = some (some (Sl.own b [])) := List.getElem?_set_self (List.getElem?_eq_some_iff.mp hi).1
  have mm : ∀ c, MM G (ρ.set i (some (Sl.own b ([] : List D)))) σ c → MM G ρ σ c := fun c z => by
    rcases z with z | ⟨j, b', ys, g1, g2⟩
    · exact .inl z
    · refine .inr ⟨j, ?_⟩
      rcases set_get g1 with ⟨rfl, _⟩ | ⟨_, g1⟩
      · exact ⟨_, _, hi, g2⟩
      · exact ⟨_, _, g1, g2⟩
  -- a heap in which a is still empty
  have kf0 : KF K (upd H' a (.lst [])) := kf_upd kf kfa
  have R2 := R1.same kf0 fun c o e => by
    by_cases q : c = a
    · subst q; rw [upd_same] at e ⊢; exact e
    · rw [upd_ne q] at e ⊢; exact sm c o (by rw [upd_ne q]; exact e)
  have kp : Keeps (MM G ρ σ) H' (upd H' a (.lst [])) := fun c o n e => by rw [upd_ne fun q => n (.inr ⟨i, _, _, hi, by rw [q]; exact hs⟩)]; exact e
  have R3 := R2.write (vs' := vs') (xs' := xs') e1 hs (by rw [upd_upd]; exact kf_upd kf kfa) (hx.mono mm kp)
  rw [upd_upd, List.set_set] at R3
  refine R3.same kf fun c o e => ?_
  by_cases q : c = a
  · subst q; rw [upd_same] at e; cases e; exact ha
  · rw [upd_ne q] at e; exact e
theorem de_callB (h : Has X.prog X.w X.K X.mg X.base k x (spB X.K n mb)) (hr : Room k X.A) (i : Nat) {y : Str} {py : Pos} (ha : PA X es (tA X.K fs)) (hN : X.N[i]? = some y := by rfl) (hv : Vis X.env.scope y := by first | exact Or.inl rfl | exact Or.inr (Or.inl rfl) | exact Or.inr (Or.inr rfl))
    (hd : (y == ("__debug__" : Str)) = false := by decide) (hcd : (y == ("__classdict__" : Str)) = false := by decide) (hg : Gl X x := by rfl) (hdb : (x == ("__debug__" : Str)) = false := by decide)
    (he : starEach (.Name y py :: es) X.env = (false, eval (.Name y py) X.env) :: starEach es X.env := by rfl) (hpl : (backTo pos (starEach es X.env)).any (·.1) = false := by rfl) :
    PE X (.Call (.Name x p) (.Name y py :: es) [] pos) (tE X.K (mCallB n mb i fs)) := by
  obtain ⟨f, fd, ps, hm, hk, hb, F⟩ := h.ex
  refine ⟨fun pins s σ H Q I hq => (pe_call F hr hg hm hk hb .nil pass0 (pa_cons (pv i hN hv hd hcd) ha he) hdb he hpl).run pins s σ H Q I ?_⟩
  obtain ⟨G, ρ, d, ρ', R, hf, hq⟩ := hq
  obtain ⟨⟨b0, xs0⟩, h0, h⟩ := bnd_inv hf
  obtain ⟨⟨ds, ρ1⟩, h1, h⟩ := bnd_inv h
  obtain ⟨⟨b1, xs1⟩, h2, h⟩ := bnd_inv h
  have e0 := ownAt2_inv h0
  have e1 := ownAt2_inv h2
  dsimp only at h
  split at h
  · rename_i hn
    obtain ⟨⟨z, xs2⟩, h3, h⟩ := bnd_inv h
    cases h
    obtain ⟨a, vs0, s0, H0, _⟩ := R.own i _ _ e0
    refine ⟨.ref a, s0, G, ρ, ds, ρ1, R, h1, fun vs H1 R1 r1 => ?_⟩
    obtain ⟨a1, vs1, s1, hH, hr1, hM, _⟩ := R1.own i _ _ e1
    rw [s0] at s1
    cases s1
    simp only [List.append_nil]
    have oa : OwnAt ρ1 σ i a := ⟨_, _, e1, s0⟩
    have w1 : ∀ c, (MM G ρ1 σ c ∧ c ≠ a) ∨ c = a → MM G ρ1 σ c := fun c z => z.elim (fun q => q.1) fun q => by rw [q]; exact .inr ⟨i, oa⟩
    have w2 : ∀ c, MM G ρ1 σ c → (MM G ρ1 σ c ∧ c ≠ a) ∨ c = a := fun c z => by
      by_cases q : c = a
      · exact .inr q
      · exact .inl ⟨z, q⟩
    refine ⟨by rw [List.length_cons, r1.len]; exact hn, fun c => MM G ρ1 σ c ∧ c ≠ a, a, vs1, vs, xs1, ds, _, xs2, rfl, fun z => z.2 rfl, hH, hr1.weak w1, r1.weak w1, fun c z => R1.domM c z.1, h3, fun v H' bvs' kp kf hb' rb rv => ?_⟩
    have kfa : X.K.lookup a = none := kf.free hb'
    have kfu : KF X.K (upd H1 a (.lst bvs')) := kf_upd R1.kf kfa
    have sm : Same (upd H1 a (.lst bvs')) H' := fun c o ec => by
      by_cases q : c = a
      · subst q; rw [upd_same] at ec; cases ec; exact hb'
      · rw [upd_ne q] at ec; exact kp c o q ec
    -- the new contents, at the heap where a alone is changed
    have R2 := write_to R1 e1 s0 kf sm hb' (rb.weak w2)
    refine hq v H' R2 (rv.weak fun c z => w2 c ?_)
    rcases z with z | ⟨j, b', xs', g1, g2⟩
    · exact .inl z
    · refine .inr ⟨j, ?_⟩
      rcases set_get g1 with ⟨rfl, _⟩ | ⟨_, g1⟩
      · exact ⟨_, _, e1, g2⟩
      · exact ⟨_, _, g1, g2⟩
  · cases h
end

/-! ## defs -/
def fnStart (N : Nat) (ds : List D) : DEnv := ds.map (fun d => some (Sl.dat d)) ++ List.replicate (N - ds.length) none
def fnEnd (p : Ctl × DEnv) : Res D := match p.1 with | .rt d => .ok d | .nx => .ok .none | _ => stuck
def fnP (N : Nat) (b : EvS) (ds : List D) : Res D := bnd (b (fnStart N ds)) fnEnd
def fnEndB (p : Ctl × DEnv) : Res (D × List D) := match p.2[0]? with
  | some (some (Sl.own true xs)) => (match p.1 with | .rt d => .ok (d, xs) | .nx => .ok (.none, xs) | _ => stuck)
  | _ => stuck
def fnB (N : Nat) (b : EvS) (xs ds : List D) : Res (D × List D) := bnd (b (some (Sl.own true xs) :: fnStart (N - 1) ds)) fnEndB
def fnL (N : Nat) (f : EvA) (ds : List D) : Res (List D) := bnd (f (fnStart N ds)) fun p => .ok p.1
theorem start_get {N : Nat} {ds : List D} {i : Nat} {s : Sl} (h : (fnStart N ds)[i]? = some (some s)) : ∃ d, ds[i]? = some d ∧ s = Sl.dat d := by
  unfold fnStart at h
  rw [List.getElem?_append] at h
  split at h
  · rw [List.getElem?_map] at h
    cases e : ds[i]? with
    | none => rw [e] at h; cases h
    | some d => rw [e] at h; cases h; exact ⟨d, rfl, rfl⟩
  · obtain ⟨_, h⟩ := List.getElem?_eq_some_iff.mp h
    rw [List.getElem_replicate] at h
    cases h
theorem start_val {n : Nat} {vs : List V} {i : Nat} {v : V} (h : vs[i]? = some v) : (vs.map some ++ List.replicate n none)[i]? = some (some v) := by
  have hl : i < vs.length := (List.getElem?_eq_some_iff.mp h).1
  rw [List.getElem?_append_left (by rw [List.length_map]; exact hl), List.getElem?_map, h]
  rfl
section
variable {P : Program} {w : World} {K : PySem.W.Frag} {mg : Str → Option Value} {base : Heap} {x qual : Str} {st : Stmt} {f : Addr} {fd : FuncData} {N ps : List Str} {k : Nat}
theorem rel_start {M : Addr → Prop} {H : Hp} {vs : List V} {ds : List D} (kf : KF K H) (hM : ∀ a, M a → H a ≠ none) (r : RpA K M H vs ds) (fx : Addr → HO → Prop) (hfx : ∀ a o, fx a o → H a = some o) :
    Rel K ⟨M, fun _ => False, fx, fun _ _ => False⟩ (fnStart N.length ds) (start N vs) H := by
  have no : ∀ i a, ¬ OwnAt (fnStart N.length ds) (start N vs) i a := fun i a ⟨b, xs, h1, _⟩ => by
    obtain ⟨d, _, e⟩ := start_get h1
    cases e
  have wk : ∀ a, MM ⟨M, fun _ => False, fx, fun _ _ => False⟩ (fnStart N.length ds) (start N vs) a → M a := fun a z => z.elim (fun q => q) fun ⟨i, q⟩ => absurd q (no i a)
  refine ⟨?_, kf, hM, fun i d h => ?_, fun i b xs h => ?_, fun i j a h => absurd h (no i a), fun v d h => h.elim, hfx⟩
  · unfold fnStart start
    rw [List.length_append, List.length_append, List.length_map, List.length_map, List.length_replicate, List.length_replicate, r.len]
  · obtain ⟨d', h1, e⟩ := start_get h
    cases e
    obtain ⟨v, h2, h3⟩ := r.getD h1
    exact ⟨v, start_val h2, h3.weak wk⟩
  · obtain ⟨d', h1, e⟩ := start_get h
    cases e
theorem ok_fnP {n : Nat} {b : EvS} (F : Fun K x qual st f fd) (S : FnScope N ps (defScope st)) (hn : ps.length = n)
    (hbody : ∀ (cdv : Value) (A : Around) (outer : List Env) (s : Shared) (H : Hp) (E : XK), Room k (A.deeper (envOfC qual (defScope st) s.heap.objs.size f cdv)) → PSs (cxOf CX0 P w K mg base N qual (defScope st) f cdv A outer s H E).nox (defBody st) (tS K b)) :
    FnOk P w K mg base CX0 (k + 1) f fd ps (spP K n (fnP N.length b)) := by
  refine F.ok S (fun vs H Q E h => h.1.trans hn.symm) (fun cdv A outer s H vs Q E hr h => ?_)
  obtain ⟨hl, M, ds, d, r, hM, hm, q⟩ := h
  refine ⟨_, L2.DL.PSs.pre (hbody cdv A outer s H E hr), fun kf => ?_⟩
  obtain ⟨⟨c, ρ'⟩, h1, h2⟩ := bnd_inv hm
  refine ⟨⟨M, fun _ => False, fun a o => H a = some o, fun _ _ => False⟩, _, c, ρ', rel_start kf hM r _ fun _ _ z => z, h1, ?_⟩
  cases c with
  | nx => cases h2; exact fun σ' H' R => q _ H' (fun a o e => R.keep a o e) R.kf .non
  | bk => cases h2
  | ct => cases h2
  | rt d' => cases h2; exact fun σ' v H' R rv => q _ H' (fun a o e => R.keep a o e) R.kf (rv.weak fun a z => .inl z)
theorem ok_fnL {n : Nat} {fl : EvA} {e : Expr} {pos : Pos} (F : Fun K x qual st f fd) (S : FnScope N ps (defScope st)) (hn : ps.length = n) (hd : defBody st = [.Return (some e) pos])
    (hbody : ∀ (cdv : Value) (A : Around) (outer : List Env) (s : Shared) (H : Hp) (E : XK), Room k (A.deeper (envOfC qual (defScope st) s.heap.objs.size f cdv)) → PE (cxOf CX0 P w K mg base N qual (defScope st) f cdv A outer s H E).nox e (tL K fl)) :
    FnOk P w K mg base CX0 (k + 1) f fd ps (spL K n (fnL N.length fl)) := by
  refine F.ok S (fun vs H Q E h => h.1.trans hn.symm) (fun cdv A outer s H vs Q E hr h => ?_)
  obtain ⟨hl, M, ds, zs, r, hM, hm, q⟩ := h
  rw [hd]
  refine ⟨_, pss_one (ps_ret (L2.DL.PE.pre (hbody cdv A outer s H E hr))), fun kf => ?_⟩
  obtain ⟨⟨c, ρ'⟩, h1, h2⟩ := bnd_inv hm
  cases h2
  refine ⟨⟨M, fun _ => False, fun a o => H a = some o, fun _ _ => False⟩, _, c, ρ', rel_start kf hM r _ fun _ _ z => z, h1, fun a us H' R ha hr' nm nf => ?_⟩
  have hn : H a = none := by
    cases e : H a with
    | none => rfl
    | some o => exact absurd e (nf o)
  exact q a us H' (fun b o e => R.keep b o e) R.kf hn ha (hr'.weak fun b z => z.elim (fun z => .inl (.inl z)) fun z => .inl (.inr z))
theorem startB_get {N : Nat} {xs : List D} {ds : List D} {i : Nat} {s : Sl} (h : (some (Sl.own true xs) :: fnStart N ds)[i]? = some (some s)) : (i = 0 ∧ s = Sl.own true xs) ∨ ∃ j d, i = j + 1 ∧ ds[j]? = some d ∧ s = Sl.dat d := by
  cases i with
  | zero => cases h; exact .inl ⟨rfl, rfl⟩
  | succ j =>
    obtain ⟨d, h1, h2⟩ := start_get (i := j) (by simpa using h)
    exact .inr ⟨j, d, rfl, h1, h2⟩
theorem ok_fnB {n : Nat} {b : EvS} (F : Fun K x qual st f fd) (S : FnScope N ps (defScope st)) (hn : ps.length = n)
    (hbody : ∀ (cdv : Value) (A : Around) (outer : List Env) (s : Shared) (H : Hp) (E : XK), Room k (A.deeper (envOfC qual (defScope st) s.heap.objs.size f cdv)) → PSs (cxOf CX0 P w K mg base N qual (defScope st) f cdv A outer s H E).nox (defBody st) (tS K b)) :
    FnOk P w K mg base CX0 (k + 1) f fd ps (spB K n (fnB N.length b)) := by
  refine F.ok S (fun vs H Q E h => h.1.trans hn.symm) (fun cdv A outer s H vs Q E hr h => ?_)
  obtain ⟨hl, M, a0, bvs, vs', xs, ds, d, xs', rfl, nM, hb, rb, r, hM, hm, q⟩ := h
  refine ⟨_, L2.DL.PSs.pre (hbody cdv A outer s H E hr), fun kf => ?_⟩
  obtain ⟨⟨c, ρ'⟩, h1, h2⟩ := bnd_inv hm
  have hs : start N (V.ref a0 :: vs') = some (V.ref a0) :: (vs'.map some ++ List.replicate (N.length - 1 - vs'.length) none) := by
    unfold start
    rw [List.map_cons, List.cons_append, List.length_cons]
    rw [show N.length - (vs'.length + 1) = N.length - 1 - vs'.length from by omega]
  let G : Gh := ⟨M, fun a => a = a0, fun a o => a ≠ a0 ∧ H a = some o, fun _ _ => False⟩
  have oi : ∀ i a, OwnAt (some (Sl.own true xs) :: fnStart (N.length - 1) ds) (start N (V.ref a0 :: vs')) i a → i = 0 ∧ a = a0 := fun i a ⟨b, ys, g1, g2⟩ => by
    rcases startB_get g1 with ⟨rfl, _⟩ | ⟨j, d', rfl, _, e⟩
    · rw [hs] at g2
      cases g2
      exact ⟨rfl, rfl⟩
    · cases e
  have wk : ∀ a, MM G (some (Sl.own true xs) :: fnStart (N.length - 1) ds) (start N (V.ref a0 :: vs')) a → M a ∨ a = a0 := fun a z => z.elim .inl fun ⟨i, q⟩ => .inr (oi i a q).2
  have R : Rel K G (some (Sl.own true xs) :: fnStart (N.length - 1) ds) (start N (V.ref a0 :: vs')) H := by
    refine ⟨?_, kf, hM, fun i d h => ?_, fun i b ys h => ?_, fun i j a h h' => (oi i a h).1.trans (oi j a h').1.symm, fun v d h => h.elim, fun a o z => z.2⟩
    · rw [hs]
      unfold fnStart
      rw [List.length_cons, List.length_cons, List.length_append, List.length_append, List.length_map, List.length_map, List.length_replicate, List.length_replicate, r.len]
    · rcases startB_get h with ⟨rfl, e⟩ | ⟨j, d', rfl, e, e'⟩
      · cases e
      · cases e'
        obtain ⟨v, h2, h3⟩ := r.getD e
        exact ⟨v, by rw [hs, List.getElem?_cons_succ]; exact start_val h2, h3.weak wk⟩
    · rcases startB_get h with ⟨rfl, e⟩ | ⟨j, d', rfl, e, e'⟩
      · cases e
        exact ⟨a0, bvs, by rw [hs]; rfl, hb, rb.weak wk, nM, fun _ => rfl, fun o z => z.1 rfl⟩
      · cases e'
  refine ⟨G, _, c, ρ', R, h1, ?_⟩
  -- the end
  have fin : ∃ ys, ρ'[0]? = some (some (Sl.own true ys)) := by
    unfold fnEndB at h2
    dsimp only at h2
    split at h2
    · rename_i ys e
      exact ⟨ys, e⟩
    · cases h2
  obtain ⟨ys, e0⟩ := fin
  have out : ∀ σ' H', Rel K G ρ' σ' H' → ∃ bvs', (∀ a o, a ≠ a0 → H a = some o → H' a = some o) ∧ KF K H' ∧ H' a0 = some (.lst bvs') ∧ RpA K (fun a => M a ∨ a = a0) H' bvs' ys ∧ ∀ a, (M a ∨ a = a0) → MB G ρ' σ' a := fun σ' H' R' => by
    obtain ⟨a, us, g1, g2, g3, g4, g5, g6⟩ := R'.own 0 true ys e0
    have ea : a = a0 := g5 rfl
    subst ea
    refine ⟨us, fun b o n e => R'.keep b o ⟨n, e⟩, R'.kf, g2, g3.weak fun b z => ?_, fun b z => ?_⟩
    · rcases z with z | rfl
      · exact .inl z
      · exact .inr ⟨0, _, _, e0, g1⟩
    · rcases z with z | rfl
      · exact .inl z
      · exact .inr ⟨0, _, e0, g1⟩
  unfold fnEndB at h2
  dsimp only at h2
  rw [e0] at h2
  dsimp only at h2
  cases c with
  | nx =>
    cases h2
    intro σ' H' R'
    obtain ⟨us, k1, k2, k3, k4, k5⟩ := out σ' H' R'
    exact q _ H' us k1 k2 k3 k4 .non
  | bk => cases h2
  | ct => cases h2
  | rt d' =>
    cases h2
    intro σ' v H' R' rv
    obtain ⟨us, k1, k2, k3, k4, k5⟩ := out σ' H' R'
    exact q _ H' us k1 k2 k3 k4 (rv.weak k5)
theorem Has.mk' {sp : Sp} (hm : mg x = some (.ref f)) (F : Fun K x qual st f fd) (hb : Binds K fd ps []) (h : FnOk P w K mg base CX0 k f fd ps sp) : Has P w K mg base k x sp := ⟨⟨f, fd, ps, hm, F.kp, hb, h⟩⟩
theorem Has.mono {sp : Sp} {j : Nat} (h : Has P w K mg base j x sp) (hj : j ≤ k) : Has P w K mg base k x sp := by
  obtain ⟨f, fd, ps, h1, h2, h3, h4⟩ := h.ex
  exact ⟨⟨f, fd, ps, h1, h2, h3, h4.mono hj⟩⟩
end
end L2.DL

namespace L2.DL
open PySem PySem.Spec PyProof.Rows

/-! ## a, b = x, y -/
inductive Ek where
  | d (f : EvF)
  | o (f : EvA)
abbrev EvK := DEnv → Res (List Sl × DEnv)
def tK (K : PySem.W.Frag) : Ek → TE
  | .d f => tE K f
  | .o f => tL K f
def mK : Ek → DEnv → Res (Sl × DEnv)
  | .d f, ρ => bnd (f ρ) fun p => .ok (Sl.dat p.1, p.2)
  | .o f, ρ => bnd (f ρ) fun p => .ok (Sl.own false p.1, p.2)
def tKs (K : PySem.W.Frag) : List Ek → TA
  | [] => tNil
  | k :: ks => tCons (tK K k) (tKs K ks)
def mKs : List Ek → EvK
  | [], ρ => .ok ([], ρ)
  | k :: ks, ρ => bnd (mK k ρ) fun p => bnd (mKs ks p.2) fun q => .ok (p.1 :: q.1, q.2)
def Pend (K : PySem.W.Frag) (ρ : DEnv) (σ : St) (H : Hp) : Gh → List V → List Sl → Prop
  | G, [], [] => Rel K G ρ σ H
  | G, v :: vs, Sl.dat d :: ss => Pend K ρ σ H (G.hold v d) vs ss
  | G, v :: vs, Sl.own b xs :: ss => ∃ a ws, v = .ref a ∧ b = false ∧ ¬ G.M a ∧ (∀ o, ¬ G.fx a o) ∧ ws.length = xs.length ∧ Pend K ρ σ H ((G.add a).lock a ws xs) vs ss
  | _, _, _ => False
def setAll {α : Type} : List Nat → List α → List (Option α) → List (Option α)
  | i :: is, s :: ss, ρ => (setAll is ss ρ).set i (some s)
  | _, _, ρ => ρ
theorem setAll_len {α : Type} : ∀ (is : List Nat) (ss : List α) (ρ : List (Option α)), (setAll is ss ρ).length = ρ.length
  | [], _, _ => by simp [setAll]
  | _ :: _, [], _ => by simp [setAll]
  | i :: is, s :: ss, ρ => by simp [setAll, setAll_len is ss ρ]
section
variable {K : PySem.W.Frag} {σ : St}
theorem rd_par : ∀ (ks : List Ek) {G : Gh} {ρ ρ' : DEnv} {H : Hp} {ss : List Sl} {Q : List V → Hp → Prop}, Rel K G ρ σ H → mKs ks ρ = .ok (ss, ρ') → (∀ vs H', Pend K ρ' σ H' G vs ss → Q vs H') → tKs K ks σ H Q
  | [], G, ρ, ρ', H, ss, Q, R, h, q => by
    cases h
    exact q [] H R
  | .d f :: ks, G, ρ, ρ', H, ss, Q, R, h, q => by
    obtain ⟨⟨s, ρ1⟩, h1, h⟩ := bnd_inv h
    obtain ⟨⟨d, ρ2⟩, h0, e⟩ := bnd_inv h1
    cases e
    obtain ⟨⟨ss', ρ3⟩, h2, h⟩ := bnd_inv h
    cases h
    refine ⟨G, ρ, d, _, R, h0, fun v H1 R1 r1 => ?_⟩
    exact rd_par ks (R1.hold r1) h2 fun vs H' p => q (v :: vs) H' p
  | .o f :: ks, G, ρ, ρ', H, ss, Q, R, h, q => by
    obtain ⟨⟨s, ρ1⟩, h1, h⟩ := bnd_inv h
    obtain ⟨⟨d, ρ2⟩, h0, e⟩ := bnd_inv h1
    cases e
    obtain ⟨⟨ss', ρ3⟩, h2, h⟩ := bnd_inv h
    cases h
    refine ⟨G, ρ, d, _, R, h0, fun a us H1 R1 ha hx hM hf => ?_⟩
    exact rd_par ks (R1.lock (.inr rfl) ha hx) h2 fun vs H' p => q (.ref a :: vs) H' ⟨a, us, rfl, rfl, fun z => hM (.inl z), hf, hx.len, p⟩
theorem pend_set {ρ : DEnv} {H : Hp} : ∀ (is : List Nat) {G : Gh} {vs : List V} {ss : List Sl}, Pend K ρ σ H G vs ss → is.length = ss.length → (∀ i ∈ is, i < ρ.length) → Rel K G (setAll is ss ρ) (setAll is vs σ) H
  | [], G, vs, ss, h, e, _ => by
    cases ss with
    | nil => cases vs with
      | nil => exact h
      | cons v vs => exact h.elim
    | cons s ss => cases e
  | i :: is, G, vs, ss, h, e, hl => by
    cases ss with
    | nil => cases e
    | cons s ss =>
      cases vs with
      | nil => exact h.elim
      | cons v vs =>
        have hi : i < (setAll is ss ρ).length := by rw [setAll_len]; exact hl i List.mem_cons_self
        have hl' : ∀ j ∈ is, j < ρ.length := fun j hj => hl j (List.mem_cons_of_mem _ hj)
        have e' : is.length = ss.length := by simpa using e
        cases s with
        | dat d =>
          obtain ⟨R, r⟩ := (pend_set is (show Pend K ρ σ H (G.hold v d) vs ss from h) e' hl').unhold
          exact R.set hi r
        | own b xs =>
          obtain ⟨a, ws, rfl, rfl, nM, nf, hw, h⟩ := h
          obtain ⟨R, ha, r⟩ := (pend_set is h e' hl').unlock hw
          refine R.setOwn hi ha r ?_ nf
          rintro (z | ⟨j, b, ys, g1, g2⟩)
          · exact nM z
          · obtain ⟨c, us, k1, _, _, k4, _⟩ := R.own j b ys g1
            rw [g2] at k1
            cases k1
            exact k4 (.inr rfl)
end
section
variable {X : Cx} {pos : Pos}
def mPar (is : List Nat) (ks : List Ek) : EvS := fun ρ => bnd (mKs ks ρ) fun p => if is.length = p.1.length ∧ ∀ i ∈ is, i < p.2.length then .ok (.nx, setAll is p.1 p.2) else stuck
theorem pa_ks0 : PA X [] (tKs X.K []) := pa_nil
theorem rdp {is : List Nat} {ks : List Ek} {E : Ends} {σ : St} {H : Hp} {Q : List V → Hp → Prop} (h : tS X.K (mPar is ks) E σ H) (k : ∀ vs H', vs.length = is.length → E.nx (setAll is vs σ) H' → Q vs H') : tKs X.K ks σ H Q := by
  obtain ⟨G, ρ, c, ρ', R, hf, hq⟩ := h
  obtain ⟨⟨ss, ρ1⟩, h1, h⟩ := bnd_inv hf
  obtain ⟨⟨hl, hi⟩, e⟩ := ite_ok h
  cases e
  refine rd_par ks R h1 fun vs H' p => ?_
  have pl : ∀ {vs : List V} {ss : List Sl} {G : Gh}, Pend X.K ρ1 σ H' G vs ss → vs.length = ss.length := by
    intro vs
    induction vs with
    | nil => intro ss G h; cases ss with
      | nil => rfl
      | cons s ss => exact h.elim
    | cons v vs ih =>
      intro ss G h
      cases ss with
      | nil => exact h.elim
      | cons s ss =>
        cases s with
        | dat d => exact congrArg (· + 1) (ih (ss := ss) h)
        | own b xs =>
          obtain ⟨a, ws, rfl, _, _, _, _, h⟩ := h
          exact congrArg (· + 1) (ih (ss := ss) h)
  exact k vs H' ((pl p).trans hl.symm) (hq _ _ (pend_set is p hl hi))
theorem set_comm' {α : Type} {l : List α} {i j : Nat} {x y : α} (h : i ≠ j) : (l.set j y).set i x = (l.set i x).set j y := List.set_comm y x (fun e => h e.symm)
theorem ds_par (i j : Nat) {x y : Str} {a b : Expr} {k1 k2 : Ek} {px py pt : Pos} {kt k2' pt2} (hc : X.calm = true) (hN : X.N.Nodup) (ha : PE X a (tK X.K k1)) (hb : PE X b (tK X.K k2)) (hi : X.N[i]? = some x := by rfl) (hj : X.N[j]? = some y := by rfl) (hij : i ≠ j := by decide)
    (hx : X.env.scope.names.lookup x = some .local := by rfl) (hy : X.env.scope.names.lookup y = some .local := by rfl)
    (hw : swappedStores [.Tuple [.Name x px, .Name y py] kt pt] (.Tuple [a, b] k2' pt2) X.env = pure (some [x, y]) := by rfl)
    (hs : swapsWithSole [.Tuple [.Name x px, .Name y py] kt pt] (.Tuple [a, b] k2' pt2) pos.line X.env = pure false := by rfl)
    (e1 : starEach [a, b] X.env = (false, eval a X.env) :: starEach [b] X.env := by rfl) (e2 : starEach [b] X.env = (false, eval b X.env) :: starEach [] X.env := by rfl) :
    PS X (.Assign [.Tuple [.Name x px, .Name y py] kt pt] (.Tuple [a, b] k2' pt2) pos) (tS X.K (mPar [i, j] [k1, k2])) := by
  refine PS.imp (ps_par (ta := tKs X.K [k1, k2]) hc hN hi hj hij hx hy (pa_cons ha (pa_cons hb pa_ks0 e2) e1) hw hs) fun E σ H h => ?_
  refine rdp h fun vs H' e q => ?_
  match vs, e, q with
  | [v, w], _, q => exact ⟨v, w, rfl, by rw [← set_comm' hij]; exact q⟩
end
end L2.DL

namespace L2.DL
open PySem PySem.Spec PyProof.Rows

/-! ## iterators over a list or a tuple -/
def IterAt (t : Bool) (h : Heap) (it a : Addr) (i : Nat) : Prop := if t = true then h.IsTupleIter it a i else h.IsListIter it a i
def SeqAt (t : Bool) (h : Heap) (a : Addr) (items : Array Value) : Prop := if t = true then h.IsTuple a items else h.IsList a items
def itObj (t : Bool) (a : Addr) : Obj := { cls := .type (if t = true then "tuple_iterator" else "list_iterator"), data := .fields #[.ref a, .int 0 0] }
theorem itObj_at {t : Bool} {h : Heap} {it a : Addr} (e : h.get? it = some (itObj t a)) : IterAt t h it a 0 := by
  unfold IterAt
  cases t with
  | true => rw [if_pos rfl]; exact ⟨_, e, rfl, rfl⟩
  | false => rw [if_neg Bool.false_ne_true]; exact ⟨_, e, rfl, rfl⟩
theorem IterAt.obj {t : Bool} {h : Heap} {it a : Addr} {i : Nat} (e : IterAt t h it a i) : ∃ o, h.get? it = some o ∧ ∀ v, o.data ≠ .cell v := by
  unfold IterAt at e
  cases t with
  | true => rw [if_pos rfl] at e; obtain ⟨o, ho, _, hd⟩ := e; exact ⟨o, ho, fun v q => by rw [hd] at q; cases q⟩
  | false => rw [if_neg Bool.false_ne_true] at e; obtain ⟨o, ho, _, hd⟩ := e; exact ⟨o, ho, fun v q => by rw [hd] at q; cases q⟩
theorem IterAt.at {t : Bool} {h h' : Heap} {it a : Addr} {i : Nat} (e : IterAt t h it a i) (k : ∀ o, h.get? it = some o → h'.get? it = some o) : IterAt t h' it a i := by
  unfold IterAt at e ⊢
  cases t with
  | true => rw [if_pos rfl] at e ⊢; exact Heap.IsTupleIter.at e k
  | false => rw [if_neg Bool.false_ne_true] at e ⊢; exact Heap.IsListIter.at e k
theorem IterAt.lt {t : Bool} {h : Heap} {it a : Addr} {i : Nat} (e : IterAt t h it a i) : it < h.objs.size := by
  obtain ⟨o, ho, _⟩ := e.obj
  exact Heap.lt_size ho
theorem SeqAt.at {t : Bool} {h h' : Heap} {a : Addr} {items : Array Value} (e : SeqAt t h a items) (k : ∀ o, h.get? a = some o → h'.get? a = some o) : SeqAt t h' a items := by
  unfold SeqAt at e ⊢
  cases t with
  | true => rw [if_pos rfl] at e ⊢; exact Heap.IsTuple.at e k
  | false => rw [if_neg Bool.false_ne_true] at e ⊢; exact Heap.IsList.at e k
theorem SeqAt.lt {t : Bool} {h : Heap} {a : Addr} {items : Array Value} (e : SeqAt t h a items) : a < h.objs.size := by
  unfold SeqAt at e
  cases t with
  | true => rw [if_pos rfl] at e; obtain ⟨_, e, _⟩ := e; exact Heap.lt_size e
  | false => rw [if_neg Bool.false_ne_true] at e; obtain ⟨_, e, _⟩ := e; exact Heap.lt_size e
theorem draws_sq {t : Bool} {prog : Program} {w : World} {A : Around} (hh : A.handled = none) (it a : Addr) (hne : a ≠ it) (items : Array Value) :
    Draws prog w A it [it, a] items.size (fun i v => items[i]? = some v) (fun i h => IterAt t h it a i ∧ SeqAt t h a items) := by
  unfold IterAt SeqAt
  cases t with
  | true => simp only [if_pos]; exact Draws.tuple hh it a hne items
  | false => simp only [if_neg Bool.false_ne_true]; exact Draws.list hh it a hne items
theorem begins_sq (t : Bool) (a : Addr) (items : Array Value) : Begins (.ref a) (itObj t a) fun h => SeqAt t h a items := by
  unfold itObj SeqAt
  cases t with
  | true => simp only [if_pos]; exact begins_tuple a items
  | false => simp only [if_neg Bool.false_ne_true]; exact begins_list a items
theorem inv_sq {X : Cx} {pins : List (Addr × Obj)} {σ : St} {H : Hp} {s : Shared} {t : Bool} {a : Addr} {xs : List V} (I : Inv X pins σ H s) (h : IsSq X.K H t a xs) : ∃ its : List Value, Vals xs its ∧ SeqAt t s.heap a its.toArray ∧ xs.length ≤ sizeLine := by
  unfold IsSq at h
  unfold SeqAt
  cases t with
  | true => rw [if_pos rfl] at h; obtain ⟨its, rv, p, hz⟩ := I.tuple h; exact ⟨its, rv, by rw [if_pos rfl]; exact p, hz⟩
  | false => rw [if_neg Bool.false_ne_true] at h; obtain ⟨its, rv, p, hz⟩ := I.list h; exact ⟨its, rv, by rw [if_neg Bool.false_ne_true]; exact p.isList, hz⟩
theorem inv_sq_inj {X : Cx} {pins : List (Addr × Obj)} {σ : St} {H : Hp} {s : Shared} {t : Bool} {a : Addr} {xs ys : List V} (I : Inv X pins σ H s) (h : IsSq X.K H t a xs) (h' : IsSq X.K H t a ys) : xs = ys := by
  unfold IsSq at h h'
  cases t with
  | true => rw [if_pos rfl] at h h'; exact I.tuple_inj h h'
  | false => rw [if_neg Bool.false_ne_true] at h h'; exact I.list_inj h h'

/-! ## enumerate -/
set_option maxHeartbeats 4000000 in
theorem meets_enum1 {v : Value} {o : Obj} {H : Heap → Prop} (B : Begins v o H) :
    Meets (Builtin.«enumerate.__new__» ⟨[.type "enumerate", v], []⟩) (fun _ R s => H s.heap ∧
      R (.ok (.ret (.ref (s.heap.push o).objs.size))) { s with heap := (s.heap.push o).push { cls := .type "enumerate", data := .fields #[.none, .bool false, .ref s.heap.objs.size, rawInt 0, .none, .none] } }) :=
  .of_wp fun prog w A R s h => by
    obtain ⟨hp, g, d, tk, os⟩ := s; obtain ⟨h1, h⟩ := h
    have hsub := sub_enumerate
    have q1 : ∀ {A' : Around} {E : Value → Shared → Prop} {Q : Value → Shared → Prop}, Q (.ref hp.objs.size) ⟨hp.push o, g, d, tk, os⟩ → wpAny (model prog w) A' (pyIter v) Q E ⟨hp, g, d, tk, os⟩ :=
      fun q => B.iter prog w _ _ ⟨hp, g, d, tk, os⟩ _ h1 q
    wp_walk using q1
    refine wpAny_stack_any fun st => wpAny_pure ?_
    split
    · rename_i c _ _ _ _ _
      cases (c == Value.type "enumerate")
      · wp_walk using q1
        exact ⟨_, rfl, h⟩
      · wp_walk using q1
        exact ⟨_, rfl, h⟩
    · wp_walk using q1
      exact ⟨_, rfl, h⟩

section
variable {prog : Program} {w : World} {A : Around} {E : Value → Shared → Prop} {s : Shared}
theorem call_enum_sq {t : Bool} {a : Addr} {items : Array Value} {Q : Value → Shared → Prop} (h1 : SeqAt t s.heap a items)
    (h : ∀ h', IsEnum h' (s.heap.objs.size + 1) s.heap.objs.size 0 .none → IterAt t h' s.heap.objs.size a 0 → h'.objs.size = s.heap.objs.size + 2 →
      (∀ b o, s.heap.get? b = some o → h'.get? b = some o) → Q (.ref (s.heap.objs.size + 1)) { s with heap := h' }) :
    wpAny (model prog w) A (call (.type "enumerate") [.ref a]) Q E s := by
  refine callType_new F.called_enumerate (by decide) (F.typeCall_enumerate_1 _) (F.newCall_enumerate_1 _) (fun obj => F.args_object_init_2 obj _) F.entry_enumerate_new
    (meets_enum1 (begins_sq t a items)) ⟨h1, ?_⟩
  have hz : (s.heap.push (itObj t a)).objs.size = s.heap.objs.size + 1 := Heap.size_push ..
  show _ ∧ _
  rw [hz]
  have he : IsEnum ((s.heap.push (itObj t a)).push { cls := .type "enumerate", data := .fields #[.none, .bool false, .ref s.heap.objs.size, rawInt 0, .none, .none] }) (s.heap.objs.size + 1) s.heap.objs.size 0 .none := by
    have := Heap.get?_push_size (s.heap.push (itObj t a)) (o := { cls := .type "enumerate", data := .fields #[.none, .bool false, .ref s.heap.objs.size, rawInt 0, .none, .none] }) rfl
    rw [hz] at this; exact this
  refine ⟨⟨_, he, rfl⟩, h _ he (itObj_at (Heap.get?_push_of_some _ (Heap.get?_push_size _ rfl))) (by rw [Heap.size_push, hz]) fun b o x => Heap.get?_push_of_some _ (Heap.get?_push_of_some _ x)⟩
end
/-- the list or tuple at a as it stands at each turn, each item in a new pair -/
def IteS (K : PySem.W.Frag) (t : Bool) (a : Addr) : It :=
  ⟨fun i H => ∃ (xs : List V) (x : V), IsSq K H t a xs ∧ xs[i]? = some x, fun i H v H' => ∃ T x, v = .ref T ∧ H T = none ∧ H' = upd H T (.tup [.int (i : Nat), x]) ∧ ∀ xs, IsSq K H t a xs → xs[i]? = some x,
    fun i H => ∃ xs : List V, IsSq K H t a xs ∧ xs.length = i⟩
theorem turn_enumS {P : Program} {w : World} {K : PySem.W.Frag} {elts : List Expr} {kk : Nat} {tpos : Pos} (t : Bool) (a e it : Addr) (hea : e ≠ a) (hia : a ≠ it) :
    Turn P w K (.Tuple elts kk tpos) (IteS K t a) [e, it] e (fun i h => (∃ old, IsEnum h e it ((i : Nat) : Int) old) ∧ IterAt t h it a i ∧ e ≠ it) where
  mem := by simp
  obj := fun i h st b hb => by
    obtain ⟨⟨old, he⟩, hi, _⟩ := st
    have e' : b = e ∨ b = it := by simpa using hb
    rcases e' with z | z
    · rw [z]; exact ⟨_, he, fun v q => nomatch q⟩
    · rw [z]; exact hi.obj
  keep := fun i h h' st k => let ⟨⟨old, he⟩, hi, hne⟩ := st; ⟨⟨old, k e (by simp) _ he⟩, hi.at fun o q => k it (by simp) o q, hne⟩
  item := by
    intro X hP hw hK hc i pins s σ H E I hf st hg
    subst hP hw hK
    obtain ⟨⟨old, he⟩, hit, hne⟩ := st
    obtain ⟨xs, x, hq, hx⟩ := hg
    obtain ⟨its, rv, p, hz⟩ := inv_sq I hq
    obtain ⟨u, hu, ru⟩ := rv.get hx
    have hel : e < s.heap.objs.size := Heap.lt_size he
    have hil : it < s.heap.objs.size := hit.lt
    have hlt : i < its.toArray.size := by simpa using (List.getElem?_eq_some_iff.mp hu).1
    refine wpAny_pyNext_enum_itemC (draws_sq (t := t) (prog := X.prog) (w := X.w) (A := X.A.in1) (show X.A.in1.handled = none from I.ok.hd hc) it a hia its.toArray) he ⟨hit, p⟩ hlt hne (by simp [hne, hea]) fun x' h' tk hP ho hit' hT hsz hk => ?_
    have ex : x' = u := by
      have : its[i]? = some x' := by simpa using hP
      rw [hu] at this
      exact (Option.some.inj this).symm
    subst ex
    refine ⟨_, rfl, wpAny_letOwnedTupleGo_enum (s := { s with heap := h', toks := tk + 1 }) ho fun h'' he' sb => ?_⟩
    have hT2 : h''.get? s.heap.objs.size = some { cls := .type "tuple", data := .seq #[.int i tk, x'] } := (sb.2 _ (Nat.ne_of_gt hel)).trans hT
    have new : ObjOk X.prog X.w (upd H s.heap.objs.size (.tup [.int (i : Nat), x])) h'' s.heap.objs.size (.tup [.int (i : Nat), x]) :=
      ⟨by show 2 ≤ sizeLine; decide, [.int i tk, x'], .cons ⟨_, rfl⟩ (.cons ru .nil), ⟨_, hT2, rfl, _, rfl⟩⟩
    have I1 : Inv X pins σ (upd H s.heap.objs.size (.tup [.int (i : Nat), x])) { s with heap := h'', toks := tk + 1 } :=
      I.turnedNew (ch := [e, it]) (fun b ob hb q => (sb.2 b (fun z => hb (by simp [z]))).trans (hk b ob (fun z => hb (by simp [z])) (fun z => hb (by simp [z])) q)) hf (Nat.le_refl _) new
    refine ⟨.ref s.heap.objs.size, _, I1, rfl, ⟨_, x, rfl, I.hok.fresh (Nat.le_refl _), rfl, fun ys hy => by rw [inv_sq_inj I hy hq]; exact hx⟩, ⟨⟨x', ?_⟩, hit'.1.at fun o q => (sb.2 it (Ne.symm hne)).trans q, hne⟩, fun b hb => ?_⟩
    · have e1 : ((i + 1 : Nat) : Int) = (i : Int) + 1 := by omega
      rw [e1]; exact he'
    · have hb' : b < s.heap.objs.size := by
        have e' : b = e ∨ b = it := by simpa using hb
        rcases e' with z | z
        · rw [z]; exact hel
        · rw [z]; exact hil
      rw [upd_ne (Nat.ne_of_lt hb')]
      exact (hf b hb).1
  done := by
    intro X hP hw hK hc i pins s σ H E I hf st hg
    subst hP hw hK
    obtain ⟨⟨old, he⟩, hit, hne⟩ := st
    obtain ⟨xs, hq, hx⟩ := hg
    obtain ⟨its, rv, p, hz⟩ := inv_sq I hq
    obtain ⟨f0, f1, f2, f3, f4, f5⟩ := hf it (by simp)
    have hl := rv.length
    have hn : i = its.toArray.size := by simp; omega
    subst hn
    exact wpAny_pyNext_enum_endD (draws_sq (t := t) (prog := X.prog) (w := X.w) (A := X.A.in1) (show X.A.in1.handled = none from I.ok.hd hc) it a hia its.toArray) he ⟨hit, p⟩ fun h' eb => ⟨rfl, I.turned (t' := s.toks) (fun b o hb q => eb b o hb q) f0 f1 f3 f4 f5⟩
  self := fun A i s Q E st h => let ⟨⟨_, he⟩, _⟩ := st; wpAny_pyIter_enum he h
def iEnumS (K : PySem.W.Frag) (ta : TA) : TI := fun σ H R => ta σ H fun vs H1 => ∃ t a xs, vs = [.ref a] ∧ IsSq K H1 t a xs ∧ R (IteS K t a) H1
theorem pi_enumS {X : Cx} {e : Expr} {ta : TA} {p pos tpos : Pos} {elts : List Expr} {kk : Nat} (hg : Gl X "enumerate") (hm : X.mg "enumerate" = none) (ha : PA X [e] ta) (hs : starEach [e] X.env = [(false, eval e X.env)] := by rfl) :
    PI X (.Tuple elts kk tpos) (.Call (.Name "enumerate" p) [e] [] pos) (iEnumS X.K ta) := by
  refine ⟨fun pins s σ H R I h => ?_⟩
  refine Call_ (ld_blt I hg hm boot_enumerate (PyProof.Rows.callWith_type1 (thn (ha.run pos pins s σ H _ I h) fun us s1 ⟨vs, H1, I1, r1, q1⟩ => ?_) hs rfl))
  obtain ⟨t, a, xs, ex, hq, q⟩ := q1
  subst ex
  cases r1 with
  | cons r rr =>
    cases rr
    cases r
    obtain ⟨its, rv, p', hz⟩ := inv_sq I1 hq
    have hal := p'.lt
    refine call_enum_sq p' fun h' he hit hsz hk => wpAny_pyIter_enum he ?_
    have I2 : Inv X pins σ H1 { s1 with heap := h' } := I1.kept (t' := s1.toks) hk
    refine ⟨s1.heap.objs.size + 1, [s1.heap.objs.size + 1, s1.heap.objs.size], _, _, H1, rfl, I2, turn_enumS t a (s1.heap.objs.size + 1) s1.heap.objs.size (Nat.ne_of_gt (Nat.lt_succ_of_lt hal)) (Nat.ne_of_lt hal), ⟨⟨.none, he⟩, hit, Nat.succ_ne_self _⟩, fun b hb => ?_, q⟩
    have e' : b = s1.heap.objs.size + 1 ∨ b = s1.heap.objs.size := by simpa using hb
    have hle : s1.heap.objs.size ≤ b := by
      rcases e' with z | z
      · rw [z]; exact Nat.le_add_right _ _
      · rw [z]; exact Nat.le_refl _
    exact I1.fpOk hle (I1.hok.fresh hle)
def enumL (xs : List D) : List D := xs.zipIdx.map fun p => PyData.tuple [.int (p.2 : Nat), p.1]
theorem enumL_len {xs : List D} : (enumL xs).length = xs.length := by unfold enumL; rw [List.length_map, List.length_zipIdx]
theorem enumL_get {xs : List D} {i : Nat} {d : D} (h : xs[i]? = some d) : (enumL xs)[i]? = some (.tuple [.int (i : Nat), d]) := by
  unfold enumL
  rw [List.getElem?_map, List.getElem?_zipIdx, h]
  simp
/-- a list or a tuple, as what is held of it says -/
theorem held_sq {K : PySem.W.Frag} {M : Addr → Prop} {H : Hp} {a : Addr} {d : D} {z : Bool × List D} (h : Rp K M H (.ref a) d) (hz : seqD d = .ok z) : ∃ vs, IsSq K H z.1 a vs ∧ RpA K M H vs z.2 := by
  cases d with
  | list xs =>
    cases hz
    obtain ⟨a', vs, e, _, q, r⟩ := h.list_inv
    cases e
    exact ⟨vs, by unfold IsSq; rw [if_neg Bool.false_ne_true]; exact q, r⟩
  | tuple xs =>
    cases hz
    obtain ⟨a', vs, e, _, q, r⟩ := h.tup_inv
    cases e
    exact ⟨vs, by unfold IsSq; rw [if_pos rfl]; exact q, r⟩
  | _ => cases hz
theorem held_ref {K : PySem.W.Frag} {M : Addr → Prop} {H : Hp} {v : V} {d : D} {z : Bool × List D} (h : Rp K M H v d) (hz : seqD d = .ok z) : ∃ a, v = .ref a := by
  cases d with
  | list xs => obtain ⟨a, vs, e, _⟩ := h.list_inv; exact ⟨a, e⟩
  | tuple xs => obtain ⟨a, vs, e, _⟩ := h.tup_inv; exact ⟨a, e⟩
  | _ => cases hz
theorem rp_pair {K : PySem.W.Frag} {M : Addr → Prop} {H : Hp} {T : Addr} {x y : V} {d e : D} (hT : H T = none) (hM : ∀ a, M a → H a ≠ none) (hx : Rp K M H x d) (hy : Rp K M H y e) : Rp K M (upd H T (.tup [x, y])) (.ref T) (.tuple [d, e]) :=
  .tup (nM hM hT) (SqT.of upd_same) (.cons (hx.same (Same.upd hT)) (.cons (hy.same (Same.upd hT)) .nil))
theorem yields_enum {K : PySem.W.Frag} {G : Gh} {a : Addr} {d : D} {z : Bool × List D} (hz : seqD d = .ok z) : Yields K (G.hold (.ref a) d).hd (IteS K z.1 a) (enumL z.2) := by
  intro M H hh
  obtain ⟨vs, q, r⟩ := held_sq (hh _ _ (.inr ⟨rfl, rfl⟩)) hz
  rw [enumL_len]
  refine ⟨fun i hi => ?_, ⟨vs, q, r.len⟩, fun i x H' hi y => ?_⟩
  · have hi' : i < vs.length := by rw [r.len]; exact hi
    exact ⟨vs, vs[i], q, by simp [hi']⟩
  · obtain ⟨T, u, rfl, hT, rfl, hu⟩ := y
    obtain ⟨e, h1, h2⟩ := r.get (hu vs q)
    exact ⟨Same.upd hT, _, enumL_get h1, fun hM => rp_pair hT hM (.int _) h2⟩
section
variable {X : Cx} {e e2 : Expr} {fe fa fb : EvF} {p pos tpos : Pos} {elts : List Expr} {kk : Nat}
def mEnum (f : EvF) : EvA := fun ρ => bnd (f ρ) fun p => bnd (seqD p.1) fun z => .ok (enumL z.2, p.2)
theorem di_enum (hm : X.mg "enumerate" = none) (he : PE X e (tE X.K fe)) (hg : Gl X "enumerate" := by rfl) (hs : starEach [e] X.env = [(false, eval e X.env)] := by rfl) (hs1 : starEach (e :: []) X.env = (false, eval e X.env) :: starEach [] X.env := by rfl) :
    PI X (.Tuple elts kk tpos) (.Call (.Name "enumerate" p) [e] [] pos) (tI X.K (mEnum fe)) := by
  refine PI.imp (pi_enumS hg hm (pa_cons he pa_nil hs1) hs) ?_
  rintro σ H Rr ⟨G, ρ, ds, ρ', R, hf, hq⟩
  obtain ⟨⟨d, ρ1⟩, h1, h⟩ := bnd_inv hf
  obtain ⟨z, h2, h⟩ := bnd_inv h
  cases h
  refine ⟨G, ρ, d, _, R, h1, fun x H1 R1 r1 => ?_⟩
  obtain ⟨a, rfl⟩ := held_ref r1 h2
  obtain ⟨vs, q, r⟩ := held_sq r1 h2
  exact ⟨z.1, a, vs, rfl, q, hq _ _ _ (R1.hold r1) (Ext.hold _ _ _) (yields_enum h2)⟩
end
end L2.DL

namespace L2.DL
open PySem PySem.Spec PyProof.Rows

/-! ## zip -/
def ItzS (K : PySem.W.Frag) (t1 t2 : Bool) (a b : Addr) : It :=
  ⟨fun i H => ∃ (xs ys : List V) (x y : V), IsSq K H t1 a xs ∧ IsSq K H t2 b ys ∧ xs[i]? = some x ∧ ys[i]? = some y,
    fun i H v H' => ∃ T x y, v = .ref T ∧ H T = none ∧ H' = upd H T (.tup [x, y]) ∧ (∀ xs, IsSq K H t1 a xs → xs[i]? = some x) ∧ ∀ ys, IsSq K H t2 b ys → ys[i]? = some y,
    fun i H => ∃ xs ys : List V, IsSq K H t1 a xs ∧ IsSq K H t2 b ys ∧ i ≤ xs.length ∧ i ≤ ys.length ∧ (i = xs.length ∨ i = ys.length)⟩
theorem turn_zipS {P : Program} {w : World} {K : PySem.W.Frag} {elts : List Expr} {kk : Nat} {tpos : Pos} (t1 t2 : Bool) {a b z TI TO i1 i2 : Addr} (D : ZipSep2 z TI TO i1 i2 [i1, a] [i2, b]) (h1a : a ≠ i1) (h2b : b ≠ i2) :
    Turn P w K (.Tuple elts kk tpos) (ItzS K t1 t2 a b) [z, TI, TO, i1, i2] z (fun i h => IsZip h z TI TO .none ∧ IsTupOf2 h TI (.ref i1) (.ref i2) ∧ (∃ x y, IsTupOf2 h TO x y) ∧ IterAt t1 h i1 a i ∧ IterAt t2 h i2 b i) where
  mem := by simp
  obj := fun i h st c hc => by
    obtain ⟨hz, hTI, ⟨x, y, hTO⟩, h1, h2⟩ := st
    have e' : c = z ∨ c = TI ∨ c = TO ∨ c = i1 ∨ c = i2 := by simpa using hc
    rcases e' with q | q | q | q | q
    · rw [q]; exact ⟨_, hz, fun v q => nomatch q⟩
    · rw [q]; exact ⟨_, hTI, fun v q => nomatch q⟩
    · rw [q]; exact ⟨_, hTO, fun v q => nomatch q⟩
    · rw [q]; exact h1.obj
    · rw [q]; exact h2.obj
  keep := fun i h h' st k => by
    obtain ⟨hz, hTI, ⟨x, y, hTO⟩, h1, h2⟩ := st
    exact ⟨k z (by simp) _ hz, k TI (by simp) _ hTI, ⟨x, y, k TO (by simp) _ hTO⟩, h1.at fun o q => k i1 (by simp) o q, h2.at fun o q => k i2 (by simp) o q⟩
  item := by
    intro X hP hw hK hc i pins s σ H E I hf st hg
    subst hP hw hK
    obtain ⟨hz, hTI, ⟨x0, y0, hTO⟩, h1, h2⟩ := st
    obtain ⟨xs, ys, x, y, hqx, hqy, hx, hy⟩ := hg
    obtain ⟨its, rv, p, _⟩ := inv_sq I hqx
    obtain ⟨its2, rv2, p2, _⟩ := inv_sq I hqy
    obtain ⟨u, hu, ru⟩ := rv.get hx
    obtain ⟨u2, hu2, ru2⟩ := rv2.get hy
    have hzl : z < s.heap.objs.size := Heap.lt_size hz
    have l1 : i < its.toArray.size := by simpa using (List.getElem?_eq_some_iff.mp hu).1
    have l2 : i < its2.toArray.size := by simpa using (List.getElem?_eq_some_iff.mp hu2).1
    have hh : X.A.in1.handled = none := I.ok.hd hc
    refine wpAny_pyNext_zipD2_item D (draws_sq (t := t1) (prog := X.prog) (w := X.w) hh i1 a h1a its.toArray) (draws_sq (t := t2) (prog := X.prog) (w := X.w) hh i2 b h2b its2.toArray) hz hTI hTO ⟨h1, p⟩ ⟨h2, p2⟩ l1 l2 fun x1 x2 h' tk P1 P2 z' TO' st1' st2' hT hsz hk => ?_
    have e1 : x1 = u := by
      have : its[i]? = some x1 := by simpa using P1
      rw [hu] at this
      exact (Option.some.inj this).symm
    have e2 : x2 = u2 := by
      have : its2[i]? = some x2 := by simpa using P2
      rw [hu2] at this
      exact (Option.some.inj this).symm
    subst e1 e2
    refine ⟨_, rfl, wpAny_letOwnedTupleGo_zip (s := { s with heap := h', toks := tk }) z' fun h'' z'' sb => ?_⟩
    have hT2 : h''.get? s.heap.objs.size = some { cls := .type "tuple", data := .seq #[x1, x2] } := (sb.2 _ (Nat.ne_of_gt hzl)).trans hT
    have new : ObjOk X.prog X.w (upd H s.heap.objs.size (.tup [x, y])) h'' s.heap.objs.size (.tup [x, y]) :=
      ⟨by show 2 ≤ sizeLine; decide, [x1, x2], .cons ru (.cons ru2 .nil), ⟨_, hT2, rfl, _, rfl⟩⟩
    have I1 : Inv X pins σ (upd H s.heap.objs.size (.tup [x, y])) { s with heap := h'', toks := tk } :=
      I.turnedNew (ch := [z, TI, TO, i1, i2]) (fun c o hb q => (sb.2 c (fun q' => hb (by simp [q']))).trans (hk c o (fun q' => hb (by simp [q'])) (fun q' => hb (by simp [q'])) (fun q' => hb (by simp [q'])) (fun q' => hb (by simp [q'])) q)) hf (Nat.le_refl _) new
    refine ⟨.ref s.heap.objs.size, _, I1, rfl, ⟨_, x, y, rfl, I.hok.fresh (Nat.le_refl _), rfl, fun l hl => by rw [inv_sq_inj I hl hqx]; exact hx, fun l hl => by rw [inv_sq_inj I hl hqy]; exact hy⟩, ⟨z'', ?_, ⟨x1, x2, ?_⟩, ?_, ?_⟩, fun c hcm => ?_⟩
    · exact (sb.2 _ D.TIz).trans (hk _ _ D.TIz D.TITO D.TIi1 D.TIi2 hTI)
    · exact (sb.2 _ D.TOz).trans TO'
    · exact st1'.1.at fun o q => (sb.2 _ (Ne.symm D.zi1)).trans q
    · exact st2'.1.at fun o q => (sb.2 _ (Ne.symm D.zi2)).trans q
    · have hlt : c < s.heap.objs.size := by
        have e' : c = z ∨ c = TI ∨ c = TO ∨ c = i1 ∨ c = i2 := by simpa using hcm
        rcases e' with q | q | q | q | q
        · rw [q]; exact hzl
        · rw [q]; exact Heap.lt_size hTI
        · rw [q]; exact Heap.lt_size hTO
        · rw [q]; exact h1.lt
        · rw [q]; exact h2.lt
      rw [upd_ne (Nat.ne_of_lt hlt)]
      exact (hf c hcm).1
  done := by
    intro X hP hw hK hc i pins s σ H E I hf st hg
    subst hP hw hK
    obtain ⟨hz, hTI, ⟨x0, y0, hTO⟩, h1, h2⟩ := st
    obtain ⟨xs, ys, hqx, hqy, l1, l2, hend⟩ := hg
    obtain ⟨its, rv, p, _⟩ := inv_sq I hqx
    obtain ⟨its2, rv2, p2, _⟩ := inv_sq I hqy
    have q1 := rv.length
    have q2 := rv2.length
    have hh : X.A.in1.handled = none := I.ok.hd hc
    refine wpAny_pyNext_zipD2_end D (draws_sq (t := t1) (prog := X.prog) (w := X.w) hh i1 a h1a its.toArray) (draws_sq (t := t2) (prog := X.prog) (w := X.w) hh i2 b h2b its2.toArray) hz hTI hTO ⟨h1, p⟩ ⟨h2, p2⟩ (by simp; omega) (by simp; omega) (by simp; omega) fun h' tk hk => ⟨rfl, I.turnedL (t' := tk) (ch := [z, TI, TO, i1, i2]) (fun c o hb q =>
      hk c o (fun q' => hb (by simp [q'])) (fun q' => hb (by simp [q'])) (fun q' => hb (by simp [q'])) (fun q' => hb (by simp [q'])) q) hf⟩
  self := fun A i s Q E st h => wpAny_pyIter_zip st.1 h

def iZipS (K : PySem.W.Frag) (ta : TA) : TI := fun σ H R => ta σ H fun vs H1 => ∃ t1 t2 a b xs ys, vs = [.ref a, .ref b] ∧ IsSq K H1 t1 a xs ∧ IsSq K H1 t2 b ys ∧ R (ItzS K t1 t2 a b) H1
theorem sep5 {N a b : Nat} (ha : a < N) (hb : b < N) : ZipSep2 (N + 4) (N + 2) (N + 3) N (N + 1) [N, a] [N + 1, b] :=
  zip_sep2 (fun c hc => by rw [List.mem_singleton.mp hc]; exact ha) (fun c hc => by rw [List.mem_singleton.mp hc]; exact hb)
theorem call_zipS {prog : Program} {w : World} {A : Around} {E : Value → Shared → Prop} {s : Shared} {t1 t2 : Bool} {a b : Addr} {xs ys : Array Value} {Q : Value → Shared → Prop} (h1 : SeqAt t1 s.heap a xs) (h2 : SeqAt t2 s.heap b ys)
    (h : ∀ h', IsZip h' (s.heap.objs.size + 4) (s.heap.objs.size + 2) (s.heap.objs.size + 3) .none → IsTupOf2 h' (s.heap.objs.size + 2) (.ref s.heap.objs.size) (.ref (s.heap.objs.size + 1)) →
      IsTupOf2 h' (s.heap.objs.size + 3) .none .none → IterAt t1 h' s.heap.objs.size a 0 → IterAt t2 h' (s.heap.objs.size + 1) b 0 → h'.objs.size = s.heap.objs.size + 5 →
      (∀ c o, s.heap.get? c = some o → h'.get? c = some o) → Q (.ref (s.heap.objs.size + 4)) { s with heap := h' }) :
    wpAny (model prog w) A (call (.type "zip") [.ref a, .ref b]) Q E s :=
  zip_begins2 (begins_sq t1 a xs) (begins_sq t2 b ys) h1 h2 fun h' hz hTI hTO g1 g2 hsz hk => h h' hz hTI hTO (itObj_at g1) (itObj_at g2) hsz hk
theorem pi_zipS {X : Cx} {e e2 : Expr} {ta : TA} {p pos tpos : Pos} {elts : List Expr} {kk : Nat} (hg : Gl X "zip") (hm : X.mg "zip" = none) (ha : PA X [e, e2] ta)
    (hs : starEach [e, e2] X.env = (false, eval e X.env) :: starEach [e2] X.env := by rfl) (hpl : (backTo pos (starEach [e2] X.env)).any (·.1) = false := by rfl) :
    PI X (.Tuple elts kk tpos) (.Call (.Name "zip" p) [e, e2] [] pos) (iZipS X.K ta) := by
  refine ⟨fun pins s σ H R I h => ?_⟩
  refine Call_ (ld_blt I hg hm PyProof.Rows.boot_zip (PyProof.Rows.callWith_type1 (thn (ha.run pos pins s σ H _ I h) fun us s1 ⟨vs, H1, I1, r1, q1⟩ => ?_) hs hpl))
  obtain ⟨t1, t2, a, b, xs, ys, ex, hqx, hqy, q⟩ := q1
  subst ex
  cases r1 with
  | cons r rr =>
    cases rr with
    | cons r' rr =>
      cases rr
      cases r
      cases r'
      have fresh5 : ∀ c, c ∈ [s1.heap.objs.size + 4, s1.heap.objs.size + 2, s1.heap.objs.size + 3, s1.heap.objs.size, s1.heap.objs.size + 1] → FpOk X pins H1 c := fun c hcm => by
        have e' : c = s1.heap.objs.size + 4 ∨ c = s1.heap.objs.size + 2 ∨ c = s1.heap.objs.size + 3 ∨ c = s1.heap.objs.size ∨ c = s1.heap.objs.size + 1 := by simpa using hcm
        have hle : s1.heap.objs.size ≤ c := by
          rcases e' with z | z | z | z | z
          · rw [z]; exact Nat.le_add_right _ _
          · rw [z]; exact Nat.le_add_right _ _
          · rw [z]; exact Nat.le_add_right _ _
          · rw [z]; exact Nat.le_refl _
          · rw [z]; exact Nat.le_add_right _ _
        exact I1.fpOk hle (I1.hok.fresh hle)
      obtain ⟨its, rv, p1, _⟩ := inv_sq I1 hqx
      obtain ⟨its2, rv2, p2, _⟩ := inv_sq I1 hqy
      refine call_zipS p1 p2 fun h' hz hTI hTO h1 h2 hsz hk => wpAny_pyIter_zip hz ?_
      have I2 : Inv X pins σ H1 { s1 with heap := h' } := I1.kept (t' := s1.toks) hk
      exact ⟨s1.heap.objs.size + 4, [s1.heap.objs.size + 4, s1.heap.objs.size + 2, s1.heap.objs.size + 3, s1.heap.objs.size, s1.heap.objs.size + 1], _, _, H1, rfl, I2, turn_zipS t1 t2 (sep5 p1.lt p2.lt) (Nat.ne_of_lt p1.lt) (Nat.ne_of_lt (Nat.lt_succ_of_lt p2.lt)), ⟨hz, hTI, ⟨_, _, hTO⟩, h1, h2⟩, fresh5, q⟩
def zipL (xs ys : List D) : List D := (xs.zip ys).map fun p => PyData.tuple [p.1, p.2]
theorem zipL_len {xs ys : List D} : (zipL xs ys).length = min xs.length ys.length := by unfold zipL; rw [List.length_map, List.length_zip]
theorem zipL_get {xs ys : List D} {i : Nat} {d e : D} (h : xs[i]? = some d) (h2 : ys[i]? = some e) : (zipL xs ys)[i]? = some (.tuple [d, e]) := by
  unfold zipL
  rw [List.getElem?_map, List.getElem?_zip_eq_some.mpr (show xs[i]? = some (d, e).1 ∧ ys[i]? = some (d, e).2 from ⟨h, h2⟩)]
  rfl
theorem yields_zip {K : PySem.W.Frag} {hd : V → D → Prop} {a b : Addr} {d d2 : D} {z z2 : Bool × List D} (hd1 : hd (.ref a) d) (hd2 : hd (.ref b) d2) (hz : seqD d = .ok z) (hz2 : seqD d2 = .ok z2) : Yields K hd (ItzS K z.1 z2.1 a b) (zipL z.2 z2.2) := by
  intro M H hh
  obtain ⟨vs, q, r⟩ := held_sq (hh _ _ hd1) hz
  obtain ⟨vs2, q2, r2⟩ := held_sq (hh _ _ hd2) hz2
  have l1 := r.len
  have l2 := r2.len
  rw [zipL_len]
  refine ⟨fun i hi => ?_, ⟨vs, vs2, q, q2, by omega, by omega, by omega⟩, fun i x H' hi y => ?_⟩
  · have hi' : i < vs.length := by omega
    have hi2 : i < vs2.length := by omega
    exact ⟨vs, vs2, vs[i], vs2[i], q, q2, by simp [hi'], by simp [hi2]⟩
  · obtain ⟨T, u, u2, rfl, hT, rfl, hu, hu2⟩ := y
    obtain ⟨e, h1, h2⟩ := r.get (hu vs q)
    obtain ⟨e2, h3, h4⟩ := r2.get (hu2 vs2 q2)
    exact ⟨Same.upd hT, _, zipL_get h1 h3, fun hM => rp_pair hT hM h2 h4⟩
section
variable {X : Cx} {e e2 : Expr} {fe fa fb : EvF} {p pos tpos : Pos} {elts : List Expr} {kk : Nat}
def mZip (f f2 : EvF) : EvA := fun ρ => bnd (f ρ) fun p => bnd (f2 p.2) fun q => bnd (seqD p.1) fun z => bnd (seqD q.1) fun z2 => .ok (zipL z.2 z2.2, q.2)
theorem di_zip (hm : X.mg "zip" = none) (ha : PE X e (tE X.K fa)) (hb : PE X e2 (tE X.K fb)) (hg : Gl X "zip" := by rfl) (hs : starEach [e, e2] X.env = (false, eval e X.env) :: starEach [e2] X.env := by rfl) (hpl : (backTo pos (starEach [e2] X.env)).any (·.1) = false := by rfl)
    (hs3 : starEach (e2 :: []) X.env = (false, eval e2 X.env) :: starEach [] X.env := by rfl) :
    PI X (.Tuple elts kk tpos) (.Call (.Name "zip" p) [e, e2] [] pos) (tI X.K (mZip fa fb)) := by
  refine PI.imp (pi_zipS hg hm (pa_cons ha (pa_cons hb pa_nil hs3) hs) hs hpl) ?_
  rintro σ H Rr ⟨G, ρ, ds, ρ', R, hf, hq⟩
  obtain ⟨⟨d, ρ1⟩, h1, h⟩ := bnd_inv hf
  obtain ⟨⟨d2, ρ2⟩, h2, h⟩ := bnd_inv h
  obtain ⟨z, h3, h⟩ := bnd_inv h
  obtain ⟨z2, h4, h⟩ := bnd_inv h
  cases h
  refine ⟨G, ρ, d, ρ1, R, h1, fun x H1 R1 r1 => ⟨G.hold x d, ρ1, d2, _, R1.hold r1, h2, fun y H2 R2 r2 => ?_⟩⟩
  obtain ⟨a, rfl⟩ := held_ref r1 h3
  obtain ⟨b, rfl⟩ := held_ref r2 h4
  have r1' := R2.held _ _ (.inr ⟨rfl, rfl⟩)
  obtain ⟨vs, q, r⟩ := held_sq r1' h3
  obtain ⟨vs2, q2, r2'⟩ := held_sq r2 h4
  exact ⟨z.1, z2.1, a, b, vs, vs2, rfl, q, q2, hq _ _ _ (R2.hold r2) ((Ext.hold _ _ _).trans (Ext.hold _ _ _)) (yields_zip (.inl (.inr ⟨rfl, rfl⟩)) (.inr ⟨rfl, rfl⟩) h3 h4)⟩
end
end L2.DL

namespace L2.DL
open PySem PySem.Spec PyProof.Rows

/-! ## list(zip(a, b)) -/
section
variable {prog : Program} {w : World} {A : Around} {E : Value → Shared → Prop} {s : Shared} {z TI TO i1 i2 T : Addr} {fp1 fp2 : List Addr} {n1 n2 i : Nat} {P1 P2 : Nat → Value → Prop} {St1 St2 : Nat → Heap → Prop} {f : Bool} {oT : Obj}
theorem zipH_item {Q : Value → Shared → Prop} (S : ZipSep2 z TI TO i1 i2 fp1 fp2) (D1 : Draws prog w A i1 fp1 n1 P1 St1) (D2 : Draws prog w A i2 fp2 n2 P2 St2)
    (hz : IsZipHeld s.heap z TI TO T f) (hT : s.heap.get? T = some oT) (hTI : IsTupOf2 s.heap TI (.ref i1) (.ref i2)) (st1 : St1 i s.heap) (st2 : St2 i s.heap) (hlt1 : i < n1) (hlt2 : i < n2)
    (hQ : ∀ x1 x2 h' tk, P1 i x1 → P2 i x2 → IsZipHeld h' z TI TO T true → St1 (i + 1) h' → St2 (i + 1) h' → IsTupOf2 h' s.heap.objs.size x1 x2 → h'.objs.size = s.heap.objs.size + 1 →
      (∀ c o, c ≠ z → c ≠ i1 → c ≠ i2 → s.heap.get? c = some o → h'.get? c = some o) → Q (.ref s.heap.objs.size) { s with heap := h', toks := tk }) :
    wpAny (model prog w) A (Builtin.«zip.__next__» ⟨[.ref z], []⟩) (fun fin s' => ∃ v, fin = .done (.ret v) ∧ Q v s') E s := by
  obtain ⟨hp, g, d, tk0, os⟩ := s
  show wpAny _ _ (field (.ref z) 2 >>= _) _ _ _
  refine wpAny_bind (wpAny_field hz rfl (x := .bool false) rfl ?_)
  show wpAny _ _ (field (.ref z) 3 >>= _) _ _ _
  refine wpAny_bind (wpAny_field hz rfl (x := .ref TI) rfl ?_)
  refine wpAny_bind (wpAny_seqItems hTI rfl ?_)
  show wpAny _ _ (Builtin.SmallTypes.ownedTupleIsFree (.ref z) >>= _) _ _ _
  refine wpAny_bind (wpAny_tupleHeld_zip hz hT fun h₁ hz₁ hs₁ => ?_)
  replace hs₁ : Heap.SameBut z hp h₁ := hs₁
  simp only [Bool.false_eq_true, if_false]
  refine wpAny_bind ?_
  rw [← Array.forIn_toList]
  simp only [List.forIn_cons, List.forIn_nil]
  refine wpAny_bind (wpAny_bind (wpAny_holding ?_))
  show wpAny _ _ (Builtin.SmallTypes.nextOf (.ref i1) >>= _) _ _ ⟨h₁, g, d, tk0, os⟩
  refine wpAny_bind (D1.item i _ _ _ hlt1 (D1.over st1 hs₁ S.zf1) fun x1 p1 tk1 hx1 sn1 hp1 => wpAny_pure ?_)
  replace hp1 : Heap.SameBut i1 h₁ p1 := hp1
  refine wpAny_pure ?_
  refine wpAny_bind (wpAny_bind (wpAny_holding ?_))
  show wpAny _ _ (Builtin.SmallTypes.nextOf (.ref i2) >>= _) _ _ ⟨p1, g, d, tk1, os⟩
  refine wpAny_bind (D2.item i _ _ _ hlt2 (D2.over (D2.over st2 hs₁ S.zf2) hp1 S.sep1_2) fun x2 p2 tk2 hx2 sn2 hp2 => wpAny_pure ?_)
  replace hp2 : Heap.SameBut i2 p1 p2 := hp2
  refine wpAny_pure (wpAny_pure ?_)
  show wpAny _ _ (newTuple [x1, x2] >>= _) _ _ _
  refine wpAny_bind (wpAny_newTuple ?_)
  have hsz : p2.objs.size = hp.objs.size := by rw [hp2.1, hp1.1, hs₁.1]
  have hz₃ : IsZipHeld p2 z TI TO T true := hp2.extBut _ _ S.zi2 (hp1.extBut _ _ S.zi1 hz₁)
  have hk : ∀ c o, c ≠ z → c ≠ i1 → c ≠ i2 → hp.get? c = some o → p2.get? c = some o := fun c o c1 c2 c3 e => hp2.extBut _ _ c3 (hp1.extBut _ _ c2 (hs₁.extBut _ _ c1 e))
  have hj1 : St1 (i + 1) p2 := D1.over sn1 hp2 S.sep2_1
  refine wpAny_pure ⟨_, rfl, ?_⟩
  show Q (.ref p2.objs.size) ⟨p2.push { cls := .type "tuple", data := .seq #[x1, x2] }, g, d, tk2, os⟩
  have hp' : IsTupOf2 (p2.push { cls := .type "tuple", data := .seq #[x1, x2] }) p2.objs.size x1 x2 := Heap.get?_push_size _ rfl
  have hz4 : (p2.push { cls := .type "tuple", data := .seq #[x1, x2] }).objs.size = p2.objs.size + 1 := Heap.size_push ..
  rw [hsz] at hp' hz4 ⊢
  exact hQ x1 x2 _ tk2 hx1 hx2 (Heap.get?_push_of_some _ hz₃) (D1.frame _ _ _ hj1 fun b hb o e => Heap.get?_push_of_some _ e) (D2.frame _ _ _ sn2 fun b hb o e => Heap.get?_push_of_some _ e) hp' hz4 fun c o c1 c2 c3 e => Heap.get?_push_of_some _ (hk c o c1 c2 c3 e)
theorem zipH_end {Q : Fin → Shared → Prop} (S : ZipSep2 z TI TO i1 i2 fp1 fp2) (D1 : Draws prog w A i1 fp1 n1 P1 St1) (D2 : Draws prog w A i2 fp2 n2 P2 St2)
    (hz : IsZipHeld s.heap z TI TO T f) (hT : s.heap.get? T = some oT) (hTI : IsTupOf2 s.heap TI (.ref i1) (.ref i2)) (st1 : St1 i s.heap) (st2 : St2 i s.heap) (hle1 : i ≤ n1) (hle2 : i ≤ n2) (hend : i = n1 ∨ i = n2)
    (hE : ∀ h' tk e, (∀ c o, c ≠ z → c ≠ i1 → c ≠ i2 → s.heap.get? c = some o → h'.get? c = some o) → (∃ o, h'.get? e = some o ∧ o.cls = .type "StopIteration") → E (.ref e) { s with heap := h', toks := tk }) :
    wpAny (model prog w) A (Builtin.«zip.__next__» ⟨[.ref z], []⟩) Q E s := by
  obtain ⟨hp, g, d, tk0, os⟩ := s
  show wpAny _ _ (field (.ref z) 2 >>= _) _ _ _
  refine wpAny_bind (wpAny_field hz rfl (x := .bool false) rfl ?_)
  show wpAny _ _ (field (.ref z) 3 >>= _) _ _ _
  refine wpAny_bind (wpAny_field hz rfl (x := .ref TI) rfl ?_)
  refine wpAny_bind (wpAny_seqItems hTI rfl ?_)
  show wpAny _ _ (Builtin.SmallTypes.ownedTupleIsFree (.ref z) >>= _) _ _ _
  refine wpAny_bind (wpAny_tupleHeld_zip hz hT fun h₁ hz₁ hs₁ => ?_)
  replace hs₁ : Heap.SameBut z hp h₁ := hs₁
  simp only [Bool.false_eq_true, if_false]
  refine wpAny_bind ?_
  rw [← Array.forIn_toList]
  simp only [List.forIn_cons, List.forIn_nil]
  refine wpAny_bind (wpAny_bind (wpAny_holding ?_))
  show wpAny _ _ (Builtin.SmallTypes.nextOf (.ref i1) >>= _) _ _ ⟨h₁, g, d, tk0, os⟩
  by_cases hlt1 : i < n1
  · refine wpAny_bind (D1.item i _ _ _ hlt1 (D1.over st1 hs₁ S.zf1) fun x1 p1 tk1 hx1 sn1 hp1 => wpAny_pure ?_)
    replace hp1 : Heap.SameBut i1 h₁ p1 := hp1
    refine wpAny_pure ?_
    refine wpAny_bind (wpAny_bind (wpAny_holding ?_))
    show wpAny _ _ (Builtin.SmallTypes.nextOf (.ref i2) >>= _) _ _ ⟨p1, g, d, tk1, os⟩
    have hi2 : i = n2 := by omega
    refine wpAny_bind (D2.done ⟨p1, g, d, tk1, os⟩ _ _ (by rw [← hi2]; exact (D2.over (D2.over st2 hs₁ S.zf2) hp1 S.sep1_2)) fun q e hq he => ?_)
    exact hE q tk1 e (fun c o c1 c2 c3 x => hq _ _ c3 (hp1.extBut _ _ c2 (hs₁.extBut _ _ c1 x))) he
  · have hi1 : i = n1 := by omega
    refine wpAny_bind (D1.done ⟨h₁, g, d, tk0, os⟩ _ _ (by rw [← hi1]; exact (D1.over st1 hs₁ S.zf1)) fun q e hq he => ?_)
    exact hE q tk0 e (fun c o c1 c2 c3 x => hq _ _ c2 (hs₁.extBut _ _ c1 x)) he
end
/-- where a zip stands that was drawn from i times, its tuples kept by the list at S -/
structure ZAt (h : Heap) (z TI TO i1 i2 S : Addr) : Prop where
  ti : IsTupOf2 h TI (.ref i1) (.ref i2)
  st : ((∃ x y, IsTupOf2 h TO x y) ∧ IsZip h z TI TO .none) ∨ ∃ T f oT, IsZipHeld h z TI TO T f ∧ h.get? T = some oT ∧ S < T
theorem ZAt.keep {h h' : Heap} {z TI TO i1 i2 S : Addr} (e : ZAt h z TI TO i1 i2 S) (k : ∀ b o, b ≠ S → h.get? b = some o → h'.get? b = some o) (n1 : z ≠ S) (n2 : TI ≠ S) (n3 : TO ≠ S) : ZAt h' z TI TO i1 i2 S := by
  refine ⟨k _ _ n2 e.ti, ?_⟩
  rcases e.st with ⟨⟨x, y, q⟩, q2⟩ | ⟨T, f, oT, q1, q2, q3⟩
  · exact .inl ⟨⟨x, y, k _ _ n3 q⟩, k _ _ n1 q2⟩
  · exact .inr ⟨T, f, oT, k _ _ n1 q1, k _ _ (Nat.ne_of_gt q3) q2, q3⟩
section
variable {prog : Program} {w : World} {A : Around} {E : Value → Shared → Prop} {s : Shared} {z TI TO i1 i2 S : Addr} {fp1 fp2 : List Addr} {n1 n2 i : Nat} {P1 P2 : Nat → Value → Prop} {St1 St2 : Nat → Heap → Prop}
theorem zAt_item {Q : Option Value → Shared → Prop} (D : ZipSep2 z TI TO i1 i2 fp1 fp2) (D1 : Draws prog w A.in1 i1 fp1 n1 P1 St1) (D2 : Draws prog w A.in1 i2 fp2 n2 P2 St2)
    (hz : ZAt s.heap z TI TO i1 i2 S) (hS : z < S ∧ TO < S ∧ i1 < S ∧ i2 < S) (hSs : S < s.heap.objs.size) (st1 : St1 i s.heap) (st2 : St2 i s.heap) (hlt1 : i < n1) (hlt2 : i < n2)
    (hQ : ∀ x1 x2 h' tk, P1 i x1 → P2 i x2 → ZAt h' z TI TO i1 i2 S → St1 (i + 1) h' → St2 (i + 1) h' → IsTupOf2 h' s.heap.objs.size x1 x2 → h'.objs.size = s.heap.objs.size + 1 →
      (∀ c o, c ≠ z → c ≠ TO → c ≠ i1 → c ≠ i2 → s.heap.get? c = some o → h'.get? c = some o) → Q (some (.ref s.heap.objs.size)) { s with heap := h', toks := tk }) :
    wpAny (model prog w) A (pyNext (.ref z)) Q E s := by
  obtain ⟨hTI, st⟩ := hz
  rcases st with ⟨⟨x, y, hTO⟩, hz⟩ | ⟨T, f, oT, hz, hT, hST⟩
  · exact wpAny_pyNext_zipD2_item D D1 D2 hz hTI hTO st1 st2 hlt1 hlt2 fun x1 x2 h' tk p1 p2 hz' hTO' s1 s2 hT hsz hk => hQ x1 x2 h' tk p1 p2 ⟨hk _ _ D.TIz D.TITO D.TIi1 D.TIi2 hTI, .inr ⟨s.heap.objs.size, false, _, hz', hT, hSs⟩⟩ s1 s2 hT hsz hk
  · have hTy : s.TypeIs (.ref z) "zip" := ⟨_, hz, rfl⟩
    unfold pyNext
    exact wpAny_bind (wpAny_attempt (wpAny_callSpecial?_slot (name := Str.ofString "__next__") hTy F.slot_zip_next
      (wpAny_call_entry F.slot_zip_next hTy F.entry_zip_next
        (zipH_item D D1 D2 hz hT hTI st1 st2 hlt1 hlt2 fun x1 x2 h' tk p1 p2 hz' s1 s2 hT' hsz hk => wpAny_pure (hQ x1 x2 h' tk p1 p2
          ⟨hk _ _ D.TIz D.TIi1 D.TIi2 hTI, .inr ⟨T, true, oT, hz', hk _ _ (fun e => absurd hS.1 (by rw [← e]; exact Nat.not_lt.mpr (Nat.le_of_lt hST))) (fun e => absurd hS.2.2.1 (by rw [← e]; exact Nat.not_lt.mpr (Nat.le_of_lt hST))) (fun e => absurd hS.2.2.2 (by rw [← e]; exact Nat.not_lt.mpr (Nat.le_of_lt hST))) hT, hST⟩⟩
          s1 s2 hT' hsz fun c o c1 _ c3 c4 e => hk c o c1 c3 c4 e)) (F.args_zip_next_1 _))))
theorem zAt_done {Q : Option Value → Shared → Prop} (D : ZipSep2 z TI TO i1 i2 fp1 fp2) (D1 : Draws prog w A.in1 i1 fp1 n1 P1 St1) (D2 : Draws prog w A.in1 i2 fp2 n2 P2 St2)
    (hz : ZAt s.heap z TI TO i1 i2 S) (st1 : St1 i s.heap) (st2 : St2 i s.heap) (hle1 : i ≤ n1) (hle2 : i ≤ n2) (hend : i = n1 ∨ i = n2)
    (hQ : ∀ h' tk, (∀ c o, c ≠ z → c ≠ TO → c ≠ i1 → c ≠ i2 → s.heap.get? c = some o → h'.get? c = some o) → Q none { s with heap := h', toks := tk }) :
    wpAny (model prog w) A (pyNext (.ref z)) Q E s := by
  obtain ⟨hTI, st⟩ := hz
  rcases st with ⟨⟨x, y, hTO⟩, hz⟩ | ⟨T, f, oT, hz, hT, hST⟩
  · exact wpAny_pyNext_zipD2_end D D1 D2 hz hTI hTO st1 st2 hle1 hle2 hend hQ
  · have hTy : s.TypeIs (.ref z) "zip" := ⟨_, hz, rfl⟩
    unfold pyNext
    refine wpAny_bind (wpAny_attempt (wpAny_callSpecial?_slot (name := Str.ofString "__next__") hTy F.slot_zip_next
      (wpAny_call_entry F.slot_zip_next hTy F.entry_zip_next (zipH_end D D1 D2 hz hT hTI st1 st2 hle1 hle2 hend fun h' tk e hk he => ?_) (F.args_zip_next_1 _))))
    obtain ⟨o, ho, hc⟩ := he
    refine wpAny_bind (wpAny_isInstance (T := "StopIteration") (b := true) ⟨o, ho, hc⟩ isSubtype_stop ?_)
    exact wpAny_pure (hQ _ _ fun c o c1 _ c3 c4 e => hk c o c1 c3 c4 e)
end
/-- pairs that were drawn, in order -/
structure PairsG (P : Nat → Value → Value → Prop) (lo : Addr) (h : Heap) (as : List Addr) : Prop where
  rise : as.Pairwise (· < ·)
  above : ∀ a ∈ as, lo < a
  pairs : ∀ (j : Nat) (a : Addr), as[j]? = some a → ∃ x y, P j x y ∧ h.get? a = some { cls := .type "tuple", data := .seq #[x, y] }
theorem zip_no_len : typeLookup (.type "zip") "__len__" = pure none := by rw [typeLookup_type, builtinLookup_eq_fast]; kernel_rfl
theorem zip_no_hint : typeLookup (.type "zip") "__length_hint__" = pure none := by rw [typeLookup_type, builtinLookup_eq_fast]; kernel_rfl
section
variable {prog : Program} {w : World} {A : Around} {E : Value → Shared → Prop} {s : Shared} {R : Result → Shared → Prop} {z TI TO i1 i2 S : Addr} {fp1 fp2 : List Addr} {n1 n2 : Nat} {P1 P2 : Nat → Value → Prop} {St1 St2 : Nat → Heap → Prop}
theorem hint_zip {r : Addr} (hT : s.TypeIs (.ref r) "zip") {Q : Bool → Shared → Prop} (h : Q true s) : wpAny (model prog w) A (Builtin.List.listLengthHint (.ref r)) Q E s := by
  unfold Builtin.List.listLengthHint
  refine wpAny_bind (wpAny_specialOf hT zip_no_len ?_)
  dsimp only
  refine wpAny_ite_split (fun hab => absurd hab (by decide)) (fun _ => ?_)
  refine wpAny_ite_split (fun hab => absurd hab (by decide)) (fun _ => ?_)
  refine wpAny_bind (wpAny_specialOf hT zip_no_hint ?_)
  exact wpAny_pure h

theorem zl_loop (hh : A.handled = none) (D : ZipSep2 z TI TO i1 i2 fp1 fp2) (D1 : Draws prog w A.in1.in1 i1 fp1 n1 P1 St1) (D2 : Draws prog w A.in1.in1 i2 fp2 n2 P2 St2) (hlo : z < S ∧ TI < S ∧ TO < S ∧ i1 < S ∧ i2 < S) (hf1 : S ∉ fp1) (hf2 : S ∉ fp2)
    (hn : min n1 n2 ≤ sizeLine) (res : Value) {h₁ : Heap}
    (hR : ∀ h' tk acc c as, (∀ b o, b ≠ S → b ≠ z → b ≠ TO → b ≠ i1 → b ≠ i2 → h₁.get? b = some o → h'.get? b = some o) → h'.get? S = some { cls := .type "list", dict := none, data := .seq acc c, slots := #[] } → as.length = min n1 n2 → PairsG (fun j x y => P1 j x ∧ P2 j y) S h' as →
      acc.toList = as.map Value.ref → R (.ok (.ret res)) { s with heap := h', toks := tk }) :
    ∀ (k i : Nat) (h : Heap) (tk c : Nat) (acc : Array Value) (as : List Addr), min n1 n2 - i = k → i ≤ min n1 n2 → ZAt h z TI TO i1 i2 S → St1 i h → St2 i h → (∀ b o, b ≠ S → b ≠ z → b ≠ TO → b ≠ i1 → b ≠ i2 → h₁.get? b = some o → h.get? b = some o) →
      h.get? S = some { cls := .type "list", dict := none, data := .seq acc c, slots := #[] } → acc.toList = as.map Value.ref → as.length = i → PairsG (fun j x y => P1 j x ∧ P2 j y) S h as →
      codeAny (model prog w) A (.builtin "list.extend.loop" ⟨[.ref S, .ref z, res], []⟩) R { s with heap := h, toks := tk } := by
  intro k
  induction k with
  | zero =>
    intro i h tk c acc as hk hi hst st1 st2 hkeep hS hacc hal hG
    have hin : i = min n1 n2 := by omega
    refine codeAny_builtin PySem.F.entry_extend_loop ?_
    rw [Around.under_plainId PySem.F.plain_extend_loop _]
    show wpAny _ A.in1 (pyNext (.ref z) >>= _) _ _ _
    refine wpAny_bind (zAt_done (s := { s with heap := h, toks := tk }) (A := A.in1) D D1 D2 hst st1 st2 (by omega) (by omega) (by omega) fun h' tk' he => ?_)
    refine wpAny_pure (hR h' tk' acc c as (fun b o h0 h1 h2 h3 h4 e => he b o h1 h2 h3 h4 (hkeep b o h0 h1 h2 h3 h4 e)) (he S _ (Nat.ne_of_gt hlo.1) (Nat.ne_of_gt hlo.2.2.1) (Nat.ne_of_gt hlo.2.2.2.1) (Nat.ne_of_gt hlo.2.2.2.2) hS) (by omega) ⟨hG.rise, hG.above, fun j a hj => ?_⟩ hacc)
    obtain ⟨x, y, hp, e3⟩ := hG.pairs j a hj
    have hb := hG.above a (List.mem_of_getElem? hj)
    exact ⟨x, y, hp, he a _ (Nat.ne_of_gt (Nat.lt_trans hlo.1 hb)) (Nat.ne_of_gt (Nat.lt_trans hlo.2.2.1 hb)) (Nat.ne_of_gt (Nat.lt_trans hlo.2.2.2.1 hb)) (Nat.ne_of_gt (Nat.lt_trans hlo.2.2.2.2 hb)) e3⟩
  | succ k ih =>
    intro i h tk c acc as hk hi hst st1 st2 hkeep hS hacc hal hG
    have hlt : i < min n1 n2 := by omega
    have hsz : acc.size = i := by rw [← Array.length_toList, hacc, List.length_map, hal]
    have hSl : S < h.objs.size := Heap.lt_size hS
    refine codeAny_builtin PySem.F.entry_extend_loop ?_
    rw [Around.under_plainId PySem.F.plain_extend_loop _]
    show wpAny _ A.in1 (pyNext (.ref z) >>= _) _ _ _
    refine wpAny_bind (zAt_item (s := { s with heap := h, toks := tk }) (A := A.in1) D D1 D2 hst ⟨hlo.1, hlo.2.2⟩ hSl st1 st2 (by omega) (by omega) fun x1 x2 h' tk' p1 p2 hst' st1' st2' ht hz hkp => ?_)
    dsimp only at ht hz hkp ⊢
    have hS' := hkp S _ (Nat.ne_of_gt hlo.1) (Nat.ne_of_gt hlo.2.2.1) (Nat.ne_of_gt hlo.2.2.2.1) (Nat.ne_of_gt hlo.2.2.2.2) hS
    have up : ∀ b o, b ≠ S → h'.get? b = some o → (h'.update S (Obj.mapSeq (·.push (Value.ref h.objs.size)))).get? b = some o := fun b o hb e => (Heap.get?_update_other _ _ (Ne.symm hb)).trans e
    show wpAny _ A.in1 (updateSeq S (·.push (Value.ref h.objs.size)) >>= _) _ _ _
    refine wpAny_bind ?_
    refine wpAny_updateSeq hS' rfl (wpAny_pure ⟨plainId_quiet PySem.F.plain_extend_loop _, ih (i + 1) _ tk' _ (acc.push (Value.ref h.objs.size)) (as ++ [h.objs.size]) (by omega) hlt (hst'.keep up (Nat.ne_of_lt hlo.1) (Nat.ne_of_lt hlo.2.1) (Nat.ne_of_lt hlo.2.2.1))
      (D1.frame _ _ _ st1' fun b hb o e => up b o (fun q => hf1 (q ▸ hb)) e) (D2.frame _ _ _ st2' fun b hb o e => up b o (fun q => hf2 (q ▸ hb)) e)
      (fun b o h0 h1 h2 h3 h4 e => up b o h0 (hkp b o h1 h2 h3 h4 (hkeep b o h0 h1 h2 h3 h4 e))) (Heap.get?_update_self _ hS' rfl) (by rw [Array.toList_push, hacc, List.map_append]; rfl) (by rw [List.length_append, hal]; rfl) ⟨?_, ?_, ?_⟩⟩) (by rw [hsz]; omega) (by show (acc.push (Value.ref h.objs.size)).size ≤ sizeLine + 1; rw [Array.size_push, hsz]; omega)
    · refine List.pairwise_append.mpr ⟨hG.rise, List.pairwise_singleton _ _, fun a ha b hb => ?_⟩
      rw [List.mem_singleton.mp hb]
      obtain ⟨j, hj⟩ := List.mem_iff_getElem?.mp ha
      obtain ⟨_, _, _, e⟩ := hG.pairs j a hj
      exact Heap.lt_size e
    · intro a ha
      rcases List.mem_append.mp ha with ha | ha
      · exact hG.above a ha
      · rw [List.mem_singleton.mp ha]; exact hSl
    · intro j b hj
      rcases Nat.lt_trichotomy j as.length with h1 | h1 | h1
      · rw [List.getElem?_append_left h1] at hj
        obtain ⟨x, y, hp, e3⟩ := hG.pairs j b hj
        have hb := hG.above b (List.mem_of_getElem? hj)
        exact ⟨x, y, hp, up b _ (Nat.ne_of_gt hb) (hkp b _ (Nat.ne_of_gt (Nat.lt_trans hlo.1 hb)) (Nat.ne_of_gt (Nat.lt_trans hlo.2.2.1 hb)) (Nat.ne_of_gt (Nat.lt_trans hlo.2.2.2.1 hb)) (Nat.ne_of_gt (Nat.lt_trans hlo.2.2.2.2 hb)) e3)⟩
      · subst h1
        have hb : h.objs.size = b := by simpa using hj
        subst hb
        subst hal
        exact ⟨x1, x2, ⟨p1, p2⟩, up _ _ (Nat.ne_of_gt hSl) ht⟩
      · have hnone : (as ++ [h.objs.size])[j]? = none := List.getElem?_eq_none (by rw [List.length_append, List.length_singleton]; omega)
        rw [hnone] at hj; cases hj
theorem zl_extend (hh : A.handled = none) (D : ZipSep2 z TI TO i1 i2 fp1 fp2) (D1 : Draws prog w A.in1.in1 i1 fp1 n1 P1 St1) (D2 : Draws prog w A.in1.in1 i2 fp2 n2 P2 St2) (hlo : z < S ∧ TI < S ∧ TO < S ∧ i1 < S ∧ i2 < S) (hf1 : S ∉ fp1) (hf2 : S ∉ fp2)
    (hn : min n1 n2 ≤ sizeLine) (res : Value) (c₀ : Nat) (hz : IsZip s.heap z TI TO .none) (hTI : IsTupOf2 s.heap TI (.ref i1) (.ref i2)) {x0 y0 : Value} (hTO : IsTupOf2 s.heap TO x0 y0) (st1 : St1 0 s.heap) (st2 : St2 0 s.heap) (hS : s.heap.get? S = some { cls := .type "list", data := .seq #[] c₀ })
    (hR : ∀ h' tk acc c as, (∀ b o, b ≠ S → b ≠ z → b ≠ TO → b ≠ i1 → b ≠ i2 → s.heap.get? b = some o → h'.get? b = some o) → h'.get? S = some { cls := .type "list", dict := none, data := .seq acc c, slots := #[] } → as.length = min n1 n2 → PairsG (fun j x y => P1 j x ∧ P2 j y) S h' as →
      acc.toList = as.map Value.ref → R (.ok (.ret res)) { s with heap := h', toks := tk }) :
    wpAny (model prog w) A.in1 (Builtin.List.listExtendWith (.ref S) (.ref z) res)
      (fun fin s' => match fin with | .done f => R (.ok f) s' | .again c' => c'.quiet = true ∧ codeAny (model prog w) A c' R s') (fun e s' => R (.error e) s') s := by
  have hT : s.TypeIs (.ref z) "zip" := ⟨_, hz, rfl⟩
  have nz : z ≠ S := Nat.ne_of_lt hlo.1
  unfold Builtin.List.listExtendWith
  refine wpAny_bind (wpAny_typeOf (T := "zip") hT ?_)
  have h1 : Builtin.List.listSameRef (.ref S) (.ref z) = false := by simp [Builtin.List.listSameRef, Ne.symm nz]
  have h2 : (Value.type "zip" == Value.type "list") = false := by decide
  have h3 : (Value.type "zip" == Value.type "tuple") = false := by decide
  simp only [h1, h2, h3, Bool.or_false, Bool.false_eq_true, if_false]
  refine wpAny_bind (wpAny_pyIter_zip hz ?_)
  refine wpAny_bind (wpAny_holding (hint_zip hT ?_))
  refine wpAny_ite_split (fun _ => ?_) (fun hab => absurd (by simp) hab)
  refine wpAny_bind (wpAny_rule ?_)
  refine wpAny_bind ?_
  show wpAny _ _ (updateSeq S (·.push .none) >>= fun _ => updateSeq S (·.pop)) _ _ _
  refine wpAny_bind (wpAny_updateSeq hS rfl ?_)
  have hS₂ := Heap.get?_update_self (Obj.mapSeq (·.push Value.none)) hS rfl
  refine wpAny_updateSeq (hz := by seq_fits) hS₂ rfl ?_
  have hS₃ := Heap.get?_update_self (Obj.mapSeq (·.pop)) hS₂ rfl
  have up : ∀ b o, b ≠ S → s.heap.get? b = some o → ((s.heap.update S (Obj.mapSeq (·.push Value.none))).update S (Obj.mapSeq (·.pop))).get? b = some o := fun b o hb e => (Heap.get?_update_other _ _ (Ne.symm hb)).trans ((Heap.get?_update_other _ _ (Ne.symm hb)).trans e)
  refine wpAny_pure ⟨plainId_quiet PySem.F.plain_extend_loop _, ?_⟩
  exact zl_loop (s := s) (h₁ := s.heap) hh D D1 D2 hlo hf1 hf2 hn res hR (min n1 n2) 0 _ s.toks _ #[] [] (Nat.sub_zero _) (Nat.zero_le _) ((ZAt.mk hTI (.inl ⟨⟨_, _, hTO⟩, hz⟩)).keep up nz (Nat.ne_of_lt hlo.2.1) (Nat.ne_of_lt hlo.2.2.1))
    (D1.frame _ _ _ st1 fun b hb o e => up b o (fun q => hf1 (q ▸ hb)) e) (D2.frame _ _ _ st2 fun b hb o e => up b o (fun q => hf2 (q ▸ hb)) e) (fun b o h0 _ _ _ _ e => up b o h0 e) hS₃ rfl rfl ⟨List.Pairwise.nil, (fun _ ha => nomatch ha), (fun j a hj => by simp at hj)⟩
theorem zl_init (hh : A.handled = none) (D : ZipSep2 z TI TO i1 i2 fp1 fp2) (D1 : Draws prog w A.in1.in1 i1 fp1 n1 P1 St1) (D2 : Draws prog w A.in1.in1 i2 fp2 n2 P2 St2) (hlo : z < S ∧ TI < S ∧ TO < S ∧ i1 < S ∧ i2 < S) (hf1 : S ∉ fp1) (hf2 : S ∉ fp2)
    (hn : min n1 n2 ≤ sizeLine) (hz : IsZip s.heap z TI TO .none) (hTI : IsTupOf2 s.heap TI (.ref i1) (.ref i2)) {x0 y0 : Value} (hTO : IsTupOf2 s.heap TO x0 y0) (st1 : St1 0 s.heap) (st2 : St2 0 s.heap) (hS : s.heap.get? S = some { cls := .type "list", data := .seq #[] })
    (hR : ∀ h' tk acc c as, (∀ b o, b ≠ S → b ≠ z → b ≠ TO → b ≠ i1 → b ≠ i2 → s.heap.get? b = some o → h'.get? b = some o) → h'.get? S = some { cls := .type "list", dict := none, data := .seq acc c, slots := #[] } → as.length = min n1 n2 → PairsG (fun j x y => P1 j x ∧ P2 j y) S h' as →
      acc.toList = as.map Value.ref → R (.ok (.ret .none)) { s with heap := h', toks := tk }) :
    wpAny (model prog w) A.in1 (Builtin.«list.__init__» ⟨[.ref S, .ref z], []⟩)
      (fun fin s' => match fin with | .done f => R (.ok f) s' | .again c' => c'.quiet = true ∧ codeAny (model prog w) A c' R s') (fun e s' => R (.error e) s') s := by
  show wpAny _ _ (do let old ← Builtin.List.listItems (.ref S); Builtin.List.listUpdate (.ref S) (fun _ => #[]); letGo old.toList.reverse; Builtin.List.listExtendWith (.ref S) (.ref z) .none) _ _ s
  refine wpAny_bind ?_
  unfold Builtin.List.listItems
  refine wpAny_bind (wpAny_seqItems hS rfl (wpAny_pure ?_))
  show wpAny _ _ (updateSeq S (fun _ => #[]) >>= fun _ => letGo (#[] : Array Value).toList.reverse >>= fun _ => Builtin.List.listExtendWith (.ref S) (.ref z) .none) _ _ s
  refine wpAny_bind (wpAny_updateSeq hS rfl ?_)
  have hS₂ := Heap.get?_update_self (Obj.mapSeq (fun _ => (#[] : Array Value))) hS rfl
  have oth : ∀ b o, b ≠ S → s.heap.get? b = some o → (s.heap.update S (Obj.mapSeq (fun _ => (#[] : Array Value)))).get? b = some o :=
    fun b o hb e => (Heap.get?_update_other _ _ (Ne.symm hb)).trans e
  refine wpAny_bind (wpAny_letGo ?_)
  exact zl_extend hh D D1 D2 hlo hf1 hf2 hn .none _ (oth _ _ (Nat.ne_of_lt hlo.1) hz) (oth _ _ (Nat.ne_of_lt hlo.2.1) hTI) (oth _ _ (Nat.ne_of_lt hlo.2.2.1) hTO) (D1.frame _ _ _ st1 fun b hb o e => oth b o (fun q => hf1 (q ▸ hb)) e) (D2.frame _ _ _ st2 fun b hb o e => oth b o (fun q => hf2 (q ▸ hb)) e) hS₂
    (fun h' tk acc c as hk hS' hl hG hacc => hR h' tk acc c as (fun b o h0 h1 h2 h3 h4 e => hk b o h0 h1 h2 h3 h4 (oth b o h0 e)) hS' hl hG hacc)
theorem zl_call {Q : Value → Shared → Prop} (hh : A.handled = none) (D : ZipSep2 z TI TO i1 i2 fp1 fp2) (D1 : ∀ B : Around, B.handled = none → Draws prog w B i1 fp1 n1 P1 St1) (D2 : ∀ B : Around, B.handled = none → Draws prog w B i2 fp2 n2 P2 St2)
    (hn : min n1 n2 ≤ sizeLine) (hz : IsZip s.heap z TI TO .none) (hTI : IsTupOf2 s.heap TI (.ref i1) (.ref i2)) {x0 y0 : Value} (hTO : IsTupOf2 s.heap TO x0 y0) (st1 : St1 0 s.heap) (st2 : St2 0 s.heap) (hl1 : ∀ b ∈ fp1, b < s.heap.objs.size) (hl2 : ∀ b ∈ fp2, b < s.heap.objs.size)
    (hQ : ∀ h' tk acc c as, (∀ b o, b ≠ z → b ≠ TO → b ≠ i1 → b ≠ i2 → s.heap.get? b = some o → h'.get? b = some o) → h'.get? s.heap.objs.size = some { cls := .type "list", dict := none, data := .seq acc c, slots := #[] } → as.length = min n1 n2 → PairsG (fun j x y => P1 j x ∧ P2 j y) s.heap.objs.size h' as →
      acc.toList = as.map Value.ref → Q (.ref s.heap.objs.size) { s with heap := h', toks := tk }) :
    wpAny (model prog w) A (call (.type "list") [.ref z]) Q E s := by
  refine callType_codes (Q₁ := fun obj s₁ => obj = .ref s.heap.objs.size ∧ s₁ = { s with heap := s.heap.push { cls := .type "list", data := .seq #[] } }) PySem.F.called_list (PySem.F.typeCall_list_1 _) PySem.F.entry_list_init
    (code_list_new _ ⟨rfl, rfl⟩) fun obj s₁ h₁ => ?_
  obtain ⟨rfl, rfl⟩ := h₁
  have hS : (s.heap.push { cls := .type "list", data := .seq #[] }).get? s.heap.objs.size = some { cls := .type "list", data := .seq #[] } := Heap.get?_push_size _ rfl
  have pu : ∀ b o, s.heap.get? b = some o → (s.heap.push { cls := .type "list", data := .seq #[] }).get? b = some o := fun b o e => Heap.get?_push_of_some _ e
  refine ⟨⟨_, hS, rfl⟩, PySem.F.args_list_init_2 _ _, zl_init (A := A.in1) (S := s.heap.objs.size) hh D (D1 _ hh) (D2 _ hh) ⟨Heap.lt_size hz, Heap.lt_size hTI, Heap.lt_size hTO, hl1 _ D.mem1, hl2 _ D.mem2⟩ (fun q => Nat.lt_irrefl _ (hl1 _ q)) (fun q => Nat.lt_irrefl _ (hl2 _ q)) hn
    (pu _ _ hz) (pu _ _ hTI) (pu _ _ hTO) (D1 A hh |>.frame _ _ _ st1 fun b _ o e => pu b o e) (D2 A hh |>.frame _ _ _ st2 fun b _ o e => pu b o e) hS (fun h' tk acc c as hk hS' hl hG hacc => ?_)⟩
  exact ⟨rfl, hQ h' tk acc c as (fun b o h1 h2 h3 h4 e => hk b o (Nat.ne_of_lt (Heap.lt_size e)) h1 h2 h3 h4 (pu b o e)) hS' hl hG hacc⟩
end

def putP : Hp → List Addr → List (V × V) → Hp
  | H, a :: as, p :: ps => upd (putP H as ps) a (.tup [p.1, p.2])
  | H, _, _ => H
theorem putP_off {b : Addr} {H : Hp} : ∀ (as : List Addr) (ps : List (V × V)), b ∉ as → putP H as ps b = H b
  | [], _, _ => rfl
  | _ :: _, [], _ => rfl
  | a :: as, p :: ps, h => by
    show upd (putP H as ps) a (.tup [p.1, p.2]) b = H b
    rw [upd_ne (fun z => h (by rw [z]; exact List.mem_cons_self)), putP_off as ps (fun z => h (List.mem_cons_of_mem _ z))]
theorem putP_at {H : Hp} : ∀ (as : List Addr) (ps : List (V × V)) (j : Nat) (a : Addr) (p : V × V), as.Nodup → as[j]? = some a → ps[j]? = some p → putP H as ps a = some (.tup [p.1, p.2])
  | [], _, j, a, p, _, h, _ => by simp at h
  | _ :: _, [], j, a, p, _, _, h => by simp at h
  | a :: as, q :: ps, 0, b, p, hn, h, h2 => by
    simp at h h2
    subst h h2
    exact upd_same
  | a :: as, q :: ps, j + 1, b, p, hn, h, h2 => by
    have hn' := List.nodup_cons.mp hn
    have h' : as[j]? = some b := by simpa using h
    show upd (putP H as ps) a (.tup [q.1, q.2]) b = _
    rw [upd_ne (fun z => hn'.1 (by rw [← z]; exact List.mem_of_getElem? h'))]
    exact putP_at as ps j b p hn'.2 h' (by simpa using h2)
section
variable {X : Cx}
theorem pairs_laid {pins : List (Addr × Obj)} {σ : St} {H : Hp} {s : Shared} {h' : Heap} {tk : Nat} {xs ys : List V} {acc : Array Value} {c : Nat} {as : List Addr} {S : Addr} (I : Inv X pins σ H s) (hz : (xs.zip ys).length ≤ sizeLine) (hSl : s.heap.objs.size ≤ S)
    (hk : ∀ b o, s.heap.get? b = some o → h'.get? b = some o) (hS : h'.get? S = some { cls := .type "list", dict := none, data := .seq acc c, slots := #[] }) (hl : as.length = (xs.zip ys).length)
    (hG : PairsG (fun j u v => ∃ x y, xs[j]? = some x ∧ ys[j]? = some y ∧ RelV x u ∧ RelV y v) S h' as) (hacc : acc.toList = as.map Value.ref) :
    ∃ H' : Hp, Same H H' ∧ H S = none ∧ (∀ t ∈ as, H t = none) ∧ S ∉ as ∧ H' S = some (.lst (as.map V.ref)) ∧ (∀ (j : Nat) (a : Addr), as[j]? = some a → ∃ x y, xs[j]? = some x ∧ ys[j]? = some y ∧ H' a = some (.tup [x, y])) ∧ Inv X pins σ H' { s with heap := h', toks := tk } := by
  have hSn : S ∉ as := fun z => Nat.lt_irrefl _ (hG.above _ z)
  have nd : as.Nodup := List.Pairwise.imp (fun {a b} (h : a < b) => Nat.ne_of_lt h) hG.rise
  have hi : ∀ t ∈ as, s.heap.objs.size ≤ t := fun t ht => Nat.le_trans hSl (Nat.le_of_lt (hG.above t ht))
  have new : ∀ t ∈ as, H t = none := fun t ht => I.hok.fresh (hi t ht)
  have newS : H S = none := I.hok.fresh hSl
  have pz : ∀ (j : Nat) (a : Addr), as[j]? = some a → ∃ x y, xs[j]? = some x ∧ ys[j]? = some y ∧ (putP (upd H S (.lst (as.map V.ref))) as (xs.zip ys)) a = some (.tup [x, y]) := fun j a hj => by
    obtain ⟨u, v, ⟨x, y, e1, e2, _, _⟩, _⟩ := hG.pairs j a hj
    refine ⟨x, y, e1, e2, putP_at as (xs.zip ys) j a (x, y) nd hj ?_⟩
    exact List.getElem?_zip_eq_some.mpr ⟨e1, e2⟩
  have off : ∀ b, b ∉ as → b ≠ S → putP (upd H S (.lst (as.map V.ref))) as (xs.zip ys) b = H b := fun b h1 h2 => by rw [putP_off as _ h1, upd_ne h2]
  have low : ∀ b o, s.heap.get? b = some o → b ∉ as ∧ b ≠ S := fun b o e => ⟨fun z => absurd (Heap.lt_size e) (Nat.not_lt.mpr (hi b z)), fun z => absurd (Heap.lt_size e) (Nat.not_lt.mpr (by rw [z]; exact hSl))⟩
  have kp : Same H (putP (upd H S (.lst (as.map V.ref))) as (xs.zip ys)) := fun b u e => by
    rw [off b (fun z => by rw [new b z] at e; cases e) (fun z => by rw [z, newS] at e; cases e)]
    exact e
  have eS : putP (upd H S (.lst (as.map V.ref))) as (xs.zip ys) S = some (.lst (as.map V.ref)) := by rw [putP_off as _ hSn, upd_same]
  refine ⟨putP (upd H S (.lst (as.map V.ref))) as (xs.zip ys), kp, newS, new, hSn, eS, pz, ?_⟩
  refine I.call' (ch := []) rfl ⟨fun b o q _ _ _ => hk b o q, fun b o q _ _ _ => ⟨o.slots, hk b o q⟩, fun b o q n _ => ?_, fun b o q _ => ⟨o, hk b o q⟩, fun b xs q => kp b _ q, fun b o u q => kp b _ q, fun b ps q => ⟨#[], by rw [kp b _ q]; simp⟩⟩ (fun b u q => ?_) I.bare fun b z => by simp at z
  · obtain ⟨z1, z2⟩ := low b o q
    rw [off b z1 z2]
    exact n
  · by_cases hb : b ∈ as
    · obtain ⟨j, e1⟩ := List.mem_iff_getElem?.mp hb
      obtain ⟨x, y, e2, e3, e4⟩ := pz j b e1
      rw [e4] at q
      cases q
      obtain ⟨u1, u2, ⟨x', y', f1, f2, f3, f4⟩, f5⟩ := hG.pairs j b e1
      rw [e2] at f1
      rw [e3] at f2
      cases f1
      cases f2
      exact ⟨by show 2 ≤ sizeLine; decide, [u1, u2], .cons f3 (.cons f4 .nil), ⟨_, f5, rfl, _, rfl⟩⟩
    · by_cases hb2 : b = S
      · rw [hb2] at q ⊢
        rw [eS] at q
        cases q
        refine ⟨by rw [List.length_map]; omega, acc.toList, c, by rw [hacc]; exact LiI.vals_refs as, ?_⟩
        rw [Array.toArray_toList]
        exact hS
      · rw [off b hb hb2] at q
        exact (I.hok b u q).stay (fun d v _ y => hk d v y) (fun d y => kp d _ y) fun d xs y => kp d _ y
def tLZ (K : PySem.W.Frag) (ta : TA) : TE := fun σ H Q => ta σ H fun vs H1 => ∃ t1 t2 a b xs ys, vs = [.ref a, .ref b] ∧ IsSq K H1 t1 a xs ∧ IsSq K H1 t2 b ys ∧ ∀ (H' : Hp) (S : Addr) (as : List Addr), Same H1 H' → H1 S = none → (∀ t ∈ as, H1 t = none) → S ∉ as →
  as.length = (xs.zip ys).length → H' S = some (.lst (as.map V.ref)) → (∀ (j : Nat) (t : Addr), as[j]? = some t → ∃ x y, xs[j]? = some x ∧ ys[j]? = some y ∧ H' t = some (.tup [x, y])) → Q (.ref S) H'
theorem pe_listZip {e e2 : Expr} {ta : TA} {p pos p2 pos2 : Pos} (hc : X.calm = true) (hg : Gl X "zip") (hm : X.mg "zip" = none) (hg2 : Gl X "list") (hm2 : X.mg "list" = none) (ha : PA X [e, e2] ta)
    (hs : starEach [e, e2] X.env = (false, eval e X.env) :: starEach [e2] X.env := by rfl) (hpl : (backTo pos2 (starEach [e2] X.env)).any (·.1) = false := by rfl)
    (hs2 : starEach [.Call (.Name "zip" p2) [e, e2] [] pos2] X.env = (false, eval (.Call (.Name "zip" p2) [e, e2] [] pos2) X.env) :: starEach [] X.env := by rfl) :
    PE X (.Call (.Name "list" p) [.Call (.Name "zip" p2) [e, e2] [] pos2] [] pos) (tLZ X.K ta) := by
  refine ⟨fun pins s σ H Q I hq => ?_⟩
  refine wpAny_Call_Name_kw (ld_blt I hg2 hm2 PyProof.Rows.boot_list ?_)
  refine PyProof.Rows.callWith_type1 ?_ hs2 rfl
  rw [hs2]
  show wpAny _ _ (spliced ((false, eval (.Call (.Name "zip" p2) [e, e2] [] pos2) X.env) :: backTo pos (starEach [] X.env))) _ _ s
  refine Calls.spliced_cons ?_
  refine Call_ (ld_blt I hg hm PyProof.Rows.boot_zip (PyProof.Rows.callWith_type1 (thn (ha.run pos2 pins s σ H _ I hq) fun us s1 ⟨vs, H1, I1, r1, q1⟩ => ?_) hs hpl))
  obtain ⟨t1, t2, a, b, xs, ys, ex, hqx, hqy, q⟩ := q1
  subst ex
  cases r1 with
  | cons r rr =>
    cases rr with
    | cons r' rr =>
      cases rr
      cases r
      cases r'
      obtain ⟨its, rv, p1, l1⟩ := inv_sq I1 hqx
      obtain ⟨its2, rv2, p2', l2⟩ := inv_sq I1 hqy
      have e1 := rv.length
      have e2' := rv2.length
      refine call_zipS p1 p2' fun h' hz hTI hTO h1 h2 hsz hk => ?_
      refine Calls.spliced_nil ?_
      have hk' : ∀ (h'' : Heap), (∀ b o, b ≠ s1.heap.objs.size + 4 → b ≠ s1.heap.objs.size + 3 → b ≠ s1.heap.objs.size → b ≠ s1.heap.objs.size + 1 → h'.get? b = some o → h''.get? b = some o) → ∀ b o, s1.heap.get? b = some o → h''.get? b = some o := fun h'' k b o e => by
        have hb : b < s1.heap.objs.size := Heap.lt_size e
        exact k b o (Nat.ne_of_lt (Nat.lt_of_lt_of_le hb (Nat.le_add_right _ _))) (Nat.ne_of_lt (Nat.lt_of_lt_of_le hb (Nat.le_add_right _ _))) (Nat.ne_of_lt hb) (Nat.ne_of_lt (Nat.lt_of_lt_of_le hb (Nat.le_add_right _ _))) (hk b o e)
      have ha' : a < h'.objs.size := by rw [hsz]; exact Nat.lt_of_lt_of_le p1.lt (Nat.le_add_right _ _)
      have hb' : b < h'.objs.size := by rw [hsz]; exact Nat.lt_of_lt_of_le p2'.lt (Nat.le_add_right _ _)
      have n1 : s1.heap.objs.size < h'.objs.size := h1.lt
      have n2 : s1.heap.objs.size + 1 < h'.objs.size := h2.lt
      refine zl_call (s := { s1 with heap := h' }) (I1.ok.hd hc) (sep5 p1.lt p2'.lt) (fun B hB => draws_sq (t := t1) hB _ a (Nat.ne_of_lt p1.lt) its.toArray) (fun B hB => draws_sq (t := t2) hB _ b (Nat.ne_of_lt (Nat.lt_succ_of_lt p2'.lt)) its2.toArray)
        (by show min its.toArray.size its2.toArray.size ≤ sizeLine; simp only [List.size_toArray]; omega) hz hTI hTO ⟨h1, p1.at fun o e => hk _ o e⟩ ⟨h2, p2'.at fun o e => hk _ o e⟩ (fun c hcm => ?_) (fun c hcm => ?_) fun h'' tk acc c as hk2 hS hl hG hacc => ?_
      · rcases (by simpa using hcm : c = s1.heap.objs.size ∨ c = a) with z | z
        · rw [z]; exact n1
        · rw [z]; exact ha'
      · rcases (by simpa using hcm : c = s1.heap.objs.size + 1 ∨ c = b) with z | z
        · rw [z]; exact n2
        · rw [z]; exact hb'
      · have hzl : (xs.zip ys).length = min xs.length ys.length := List.length_zip
        have hl' : as.length = (xs.zip ys).length := by
          rw [hl, hzl]
          simp only [List.size_toArray]
          omega
        obtain ⟨H', k1, k2, k3, k4, k5, k6, J⟩ := pairs_laid (tk := tk) I1 (xs := xs) (ys := ys) (by omega) (show s1.heap.objs.size ≤ h'.objs.size from Nat.le_of_lt n1) (hk' h'' hk2) hS hl'
          ⟨hG.rise, hG.above, fun j t hj => by
            obtain ⟨u, v, ⟨g1, g2⟩, g3⟩ := hG.pairs j t hj
            have jl : j < as.length := (List.getElem?_eq_some_iff.mp hj).1
            have jx : j < xs.length := by omega
            have jy : j < ys.length := by omega
            obtain ⟨u', w1, w2⟩ := rv.get (List.getElem?_eq_getElem jx)
            obtain ⟨v', w3, w4⟩ := rv2.get (List.getElem?_eq_getElem jy)
            have g1' : its[j]? = some u := by simpa using g1
            have g2' : its2[j]? = some v := by simpa using g2
            rw [w1] at g1'
            rw [w3] at g2'
            cases g1'
            cases g2'
            exact ⟨_, _, ⟨_, _, List.getElem?_eq_getElem jx, List.getElem?_eq_getElem jy, w2, w4⟩, g3⟩⟩ hacc
        exact ⟨.ref _, H', J, rfl, q H' _ as k1 k2 k3 k4 hl' k5 k6⟩
variable {e e2 : Expr} {fa fb : EvF}
def mLZip (f f2 : EvF) : EvA := fun ρ => bnd (mZip f f2 ρ) fun p => .ok p
theorem dl_listZip {p pos p2 pos2 : Pos} (hc : X.calm = true) (hm : X.mg "zip" = none) (hm2 : X.mg "list" = none) (ha : PE X e (tE X.K fa)) (hb : PE X e2 (tE X.K fb)) (hg : Gl X "zip" := by rfl) (hg2 : Gl X "list" := by rfl)
    (hs : starEach [e, e2] X.env = (false, eval e X.env) :: starEach [e2] X.env := by rfl) (hpl : (backTo pos2 (starEach [e2] X.env)).any (·.1) = false := by rfl) (hs3 : starEach (e2 :: []) X.env = (false, eval e2 X.env) :: starEach [] X.env := by rfl)
    (hs2 : starEach [.Call (.Name "zip" p2) [e, e2] [] pos2] X.env = (false, eval (.Call (.Name "zip" p2) [e, e2] [] pos2) X.env) :: starEach [] X.env := by rfl) :
    PE X (.Call (.Name "list" p) [.Call (.Name "zip" p2) [e, e2] [] pos2] [] pos) (tL X.K (mZip fa fb)) := by
  refine PE.by (pe_listZip hc hg hm hg2 hm2 (pa_cons ha (pa_cons hb pa_nil hs3) hs) hs hpl hs2) ?_
  rintro σ H Q ⟨G, ρ, ds, ρ', R, hf, hq⟩
  obtain ⟨⟨d, ρ1⟩, h1, h⟩ := bnd_inv hf
  obtain ⟨⟨d2, ρ2⟩, h2, h⟩ := bnd_inv h
  obtain ⟨z, h3, h⟩ := bnd_inv h
  obtain ⟨z2, h4, h⟩ := bnd_inv h
  cases h
  refine ⟨G, ρ, d, ρ1, R, h1, fun x H1 R1 r1 => ⟨G.hold x d, ρ1, d2, _, R1.hold r1, h2, fun y H2 R2 r2 => ?_⟩⟩
  obtain ⟨a, rfl⟩ := held_ref r1 h3
  obtain ⟨b, rfl⟩ := held_ref r2 h4
  obtain ⟨R3, r1'⟩ := R2.unhold
  obtain ⟨vs, q, r⟩ := held_sq r1' h3
  obtain ⟨vs2, q2, r2'⟩ := held_sq r2 h4
  refine ⟨z.1, z2.1, a, b, vs, vs2, rfl, q, q2, fun H' S as sm nS nas nSa hl hS hp kf => ?_⟩
  have R4 := R3.freshS nS sm kf hS
  have hK : X.K.lookup S = none := kf.free hS
  refine hq S _ H' R4 hS ?_ (R3.nown nS) fun o zz => by
    have := R3.keep S o zz
    rw [nS] at this
    cases this
  -- the pairs
  have key : ∀ (n : Nat) (as : List Addr) (vs vs2 : List V) (ds ds2 : List D), RpA X.K (MM G ρ2 σ) H2 vs ds → RpA X.K (MM G ρ2 σ) H2 vs2 ds2 → as.length = (vs.zip vs2).length → (∀ t ∈ as, H2 t = none) → S ∉ as →
      (∀ (j : Nat) (t : Addr), as[j]? = some t → ∃ x y, vs[j]? = some x ∧ vs2[j]? = some y ∧ H' t = some (.tup [x, y])) → RpA X.K (MM (G.add S) ρ2 σ) H' (as.map V.ref) (zipL ds ds2) := by
    intro _ as
    induction as with
    | nil =>
      intro vs vs2 ds ds2 r r2 hl _ _ _
      have : zipL ds ds2 = [] := by
        have e := zipL_len (xs := ds) (ys := ds2)
        rw [← r.len, ← r2.len, ← List.length_zip, ← hl] at e
        exact List.eq_nil_of_length_eq_zero e
      rw [this]
      exact .nil
    | cons t as ih =>
      intro vs vs2 ds ds2 r r2 hl na nS' hp
      cases r with
      | nil => simp at hl
      | cons rx rr =>
        cases r2 with
        | nil => simp at hl
        | cons ry rr2 =>
          obtain ⟨x, y, e1, e2, e3⟩ := hp 0 t rfl
          simp at e1 e2
          subst e1 e2
          have up : ∀ {v : V} {d : D}, Rp X.K (MM G ρ2 σ) H2 v d → Rp X.K (MM (G.add S) ρ2 σ) H' v d := fun {v d} h => ((h.off hK nS).weak fun c zz => mm_add.mp zz).same sm
          refine .cons (.tup (fun zz => ?_) (SqT.of e3) (.cons (up rx) (.cons (up ry) .nil))) (ih _ _ _ _ rr rr2 (by simpa using hl) (fun t' ht => na t' (List.mem_cons_of_mem _ ht)) (fun zz => nS' (List.mem_cons_of_mem _ zz)) fun j t' hj => by
            have := hp (j + 1) t' (by simpa using hj)
            simpa using this)
          rcases mm_add.mp zz with zz | zz
          · exact R3.domM _ zz (na t List.mem_cons_self)
          · exact nS' (by rw [← zz]; exact List.mem_cons_self)
  exact key 0 as vs vs2 _ _ r r2' hl nas nSa hp
end
end L2.DL

namespace L2.DL
open PySem PySem.Spec PyProof.Rows

/-! ## sorted, min, max -/
section
variable {X : Cx} {pins : List (Addr × Obj)} {σ : St} {H : Hp} {s : Shared} {M : Addr → Prop}
open Classical in
noncomputable def sortS : Bool × List D → Res (List D) := fun p => if p.1 = false ∧ PySem.W.AllAlike p.2 ∧ PySem.W.Sortable p.2 ∧ p.2.length ≤ lim ∧ ∀ d ∈ p.2, d.depth ≤ 60 then .ok (p.2.mergeSort (PySem.W.dataLe false (fun d : D => d))) else stuck
theorem each_of {R : Value → V × D → Prop} : ∀ {ws : List V} {ds : List D} {us : List Value}, RpA X.K M H ws ds → Vals ws us → (∀ v d u, Rp X.K M H v d → RelV v u → R u (v, d)) → PySem.W.EachIs R us (ws.zip ds)
  | _, _, _, .nil, .nil, _ => .nil
  | _, _, _, .cons r t, .cons p q, h => .cons (h _ _ _ r p) (each_of t q h)
theorem vals_each {R : Value → V × D → Prop} (h : ∀ u p, R u p → RelV p.1 u) : ∀ {us : List Value} {ps : List (V × D)}, PySem.W.EachIs R us ps → Vals (ps.map Prod.fst) us
  | _, _, .nil => .nil
  | _, _, .cons r t => .cons (h _ _ r) (vals_each h t)
theorem rpA_each {R : Value → V × D → Prop} (h : ∀ u p, R u p → Rp X.K M H p.1 p.2) : ∀ {us : List Value} {ps : List (V × D)}, PySem.W.EachIs R us ps → RpA X.K M H (ps.map Prod.fst) (ps.map Prod.snd)
  | _, _, .nil => .nil
  | _, _, .cons r t => .cons (h _ _ r) (rpA_each h t)
theorem zip_snd : ∀ {ws : List V} {ds : List D}, ws.length = ds.length → (ws.zip ds).map Prod.snd = ds
  | [], [], _ => rfl
  | [], _ :: _, h => by cases h
  | _ :: _, [], h => by cases h
  | w :: ws, d :: ds, h => by
    show d :: (ws.zip ds).map Prod.snd = d :: ds
    rw [zip_snd (Nat.succ.inj h)]
theorem cd_sorted (hu : X.A.units + 64 < cLine) : CallR X (.builtin "sorted") (rSqL X.K sortS) := by
  rintro pins s σ H vs us Q I r ⟨M, t, a, ws, xs, z, rfl, hs, hr, hg, hq⟩
  unfold sortS at hg
  split at hg
  · rename_i hc
    obtain ⟨ht, h1, h2, h3, h4⟩ := hc
    dsimp only at ht h1 h2 h3 h4
    subst ht
    cases hg
    unfold IsSq at hs
    rw [if_neg Bool.false_ne_true] at hs
    obtain ⟨its, rv, hl, hz⟩ := I.list hs
    rw [Vals.ref1 r]
    have hl' := hr.len
    have e2 : (ws.zip xs).map Prod.snd = xs := zip_snd hl'
    have en : (ws.zip xs).length = xs.length := by rw [List.length_zip]; omega
    refine PySem.W.sorted_data (β := V × D) (bs := ws.zip xs) (enc := Prod.snd) (R := fun u p => RelV p.1 u ∧ Rp X.K M H p.1 p.2) hl.isList (each_of hr rv fun v d u q1 q2 => ⟨q2, q1⟩) (each_of hr rv fun v d u q1 q2 => q1.reads I q2) (by rw [e2]; exact h1) (by rw [e2]; exact h2) (by rw [en]; exact lim_le h3)
      (fun b hb => ?_) fun out hlo e => ?_
    · have : b.2 ∈ xs := by rw [← e2]; exact List.mem_map.mpr ⟨b, hb, rfl⟩
      have := h4 _ this
      omega
    · obtain ⟨ep, he'⟩ := PyProof.Rows.sortedAll_at s.heap its out.toArray
      have v1 := vals_each (R := fun u (p : V × D) => RelV p.1 u ∧ Rp X.K M H p.1 p.2) (fun u p q => q.1) e
      have v2 := rpA_each (R := fun u (p : V × D) => RelV p.1 u ∧ Rp X.K M H p.1 p.2) (fun u p q => q.2) e
      have e3 : ((ws.zip xs).mergeSort (PySem.W.dataLe false Prod.snd)).map Prod.snd = xs.mergeSort (PySem.W.dataLe false (fun d : D => d)) := by
        have em := List.map_mergeSort (r := PySem.W.dataLe false (Prod.snd : V × D → D)) (s := PySem.W.dataLe false (fun d : D => d)) (f := Prod.snd) (l := ws.zip xs) (fun _ _ _ _ => rfl)
        rw [e2] at em
        exact em
      rw [e3] at v2
      have hlen : (((ws.zip xs).mergeSort (PySem.W.dataLe false Prod.snd)).map Prod.fst).length ≤ sizeLine := by
        rw [List.length_map, List.length_mergeSort, en]
        exact lim_le h3
      exact ⟨.ref _, upd H (s.heap.objs.size + 1) (.lst (((ws.zip xs).mergeSort (PySem.W.dataLe false Prod.snd)).map Prod.fst)), I.laid (t' := s.toks) (fun _ _ => PyProof.Rows.sortedAll_old) (Nat.le_succ _) ⟨hlen, out, ep, v1, he'⟩, rfl, hq _ _ (I.hok.fresh (Nat.le_succ _)) v2⟩
  · cases hg
open Classical in
noncomputable def bestS (g : D → List D → D) : Bool × List D → Res D := fun p => match p.2 with
  | [] => stuck
  | x :: xs => if PySem.W.AlikeAll (x :: xs) ∧ PyData.depthAll (x :: xs) ≤ 60 then .ok (g x xs) else stuck
theorem best_ret {ws : List V} {xs : List D} {its : List Value} {g : D} {i : Nat} {v : Value} {h' : Heap} {bs : List Addr} (I : Inv X pins σ H s) (hr : RpA X.K M H ws xs) (rv : Vals ws its) (hv : its.toArray[i]? = some v) (rd : Reads h' v g bs)
    (hk : ∀ b o, s.heap.get? b = some o → h'.get? b = some o) : ∃ x, RelV x v ∧ Rp X.K M H x g := by
  have hv' : its[i]? = some v := by simpa using hv
  have hl := rv.length
  have il : i < ws.length := by
    have := (List.getElem?_eq_some_iff.mp hv').1
    omega
  obtain ⟨u, w1, w2⟩ := rv.get (List.getElem?_eq_getElem il)
  rw [hv'] at w1
  cases w1
  obtain ⟨d, g1, g2⟩ := hr.get (List.getElem?_eq_getElem il)
  obtain ⟨as, q⟩ := g2.reads I w2
  have q' := PyProof.Rows.Reads.keeps hk q
  obtain ⟨e, _⟩ := Reads.unique rd _ _ q'
  subst e
  exact ⟨_, w2, g2⟩
theorem cd_minL (hc : X.calm = true) (hu : X.A.units + 64 < cLine) : CallR X (.builtin "min") (rSq X.K (bestS PySem.W.minD)) := by
  rintro pins s σ H vs us Q I r ⟨M, t, a, ws, xs, z, rfl, hs, hr, hm, hn, hg, hq⟩
  unfold bestS at hg
  dsimp only at hg
  cases xs with
  | nil => cases hg
  | cons x xs =>
    dsimp only at hg
    have hg' : (PySem.W.AlikeAll (x :: xs) ∧ PyData.depthAll (x :: xs) ≤ 60) ∧ PySem.W.minD x xs = z := by
      split at hg
      · rename_i hh
        cases hg
        exact ⟨hh, rfl⟩
      · cases hg
    obtain ⟨⟨h1, h2⟩, e⟩ := hg'
    subst e
    rw [Vals.ref1 r]
    obtain ⟨its, rv, p, _⟩ := inv_sq I hs
    obtain ⟨as, rd⟩ := hr.reads I rv
    unfold SeqAt at p
    cases t with
    | true =>
      rw [if_pos rfl] at p
      refine PySem.W.min_tuple_data (I.ok.hd hc) p rd h1 (by omega) fun i v h' tk bs hv rb hk => ?_
      obtain ⟨x', w1, w2⟩ := best_ret I hr rv hv rb hk
      exact ⟨x', H, I.kept (t' := tk) hk, w1, hq _ _ (Same.refl _) w2⟩
    | false =>
      rw [if_neg Bool.false_ne_true] at p
      refine PySem.W.min_list_data (I.ok.hd hc) p rd h1 (by omega) fun i v h' tk bs hv rb hk => ?_
      obtain ⟨x', w1, w2⟩ := best_ret I hr rv hv rb hk
      exact ⟨x', H, I.kept (t' := tk) hk, w1, hq _ _ (Same.refl _) w2⟩
theorem cd_maxL (hc : X.calm = true) (hu : X.A.units + 64 < cLine) : CallR X (.builtin "max") (rSq X.K (bestS PySem.W.maxD)) := by
  rintro pins s σ H vs us Q I r ⟨M, t, a, ws, xs, z, rfl, hs, hr, hm, hn, hg, hq⟩
  unfold bestS at hg
  dsimp only at hg
  cases xs with
  | nil => cases hg
  | cons x xs =>
    dsimp only at hg
    have hg' : (PySem.W.AlikeAll (x :: xs) ∧ PyData.depthAll (x :: xs) ≤ 60) ∧ PySem.W.maxD x xs = z := by
      split at hg
      · rename_i hh
        cases hg
        exact ⟨hh, rfl⟩
      · cases hg
    obtain ⟨⟨h1, h2⟩, e⟩ := hg'
    subst e
    rw [Vals.ref1 r]
    obtain ⟨its, rv, p, _⟩ := inv_sq I hs
    obtain ⟨as, rd⟩ := hr.reads I rv
    unfold SeqAt at p
    cases t with
    | true =>
      rw [if_pos rfl] at p
      refine PySem.W.max_tuple_data (I.ok.hd hc) p rd h1 (by omega) fun i v h' tk bs hv rb hk => ?_
      obtain ⟨x', w1, w2⟩ := best_ret I hr rv hv rb hk
      exact ⟨x', H, I.kept (t' := tk) hk, w1, hq _ _ (Same.refl _) w2⟩
    | false =>
      rw [if_neg Bool.false_ne_true] at p
      refine PySem.W.max_list_data (I.ok.hd hc) p rd h1 (by omega) fun i v h' tk bs hv rb hk => ?_
      obtain ⟨x', w1, w2⟩ := best_ret I hr rv hv rb hk
      exact ⟨x', H, I.kept (t' := tk) hk, w1, hq _ _ (Same.refl _) w2⟩
end

/-! ## comparisons of a list of the def's own -/
section
variable {X : Cx} {x : Str} {px pos : Pos} {b e : Expr} {fb : EvF}
theorem own_false {K : PySem.W.Frag} {G : Gh} {ρ : DEnv} {σ : St} {H : Hp} {i : Nat} {bb : Bool} {xs : List D} (R : Rel K G ρ σ H) (h : ρ[i]? = some (some (Sl.own bb xs))) : ∃ a, σ[i]? = some (some (V.ref a)) ∧ Rp K (fun _ => False) H (.ref a) (.list xs) := by
  obtain ⟨a, vs, h1, h2, h3, _⟩ := R.own i bb xs h
  exact ⟨a, h1, .lst (fun z => z) (SqL.of h2) (h3.weak fun _ z => z.elim)⟩
def mCmpO (g : D → D → Res Bool) (i : Nat) (fb : EvF) : EvF := fun ρ => bnd (ownAt i ρ) fun _ => bnd (fb ρ) fun q => bnd (ownAt i q.2) fun xs => bnd (g (.list xs) q.1) fun k => .ok (.bool k, q.2)
theorem rd_cmpO {K : PySem.W.Frag} {g : D → D → Res Bool} {i : Nat} {σ : St} {H : Hp} {G : Gh} {ρ ρ' : DEnv} {d : D} {Q : VK} (R : Rel K G ρ σ H) (hf : mCmpO g i fb ρ = .ok (d, ρ')) (hq : ∀ k H', d = .bool k → Rel K G ρ' σ H' → Q (.bl k) H') : tVar i σ H fun x H1 => tE K fb σ H1 fun y H2 => rB K g x y H2 Q := by
  obtain ⟨_, h0, h⟩ := bnd_inv hf
  obtain ⟨⟨d2, ρ2⟩, h1, h⟩ := bnd_inv h
  obtain ⟨xs, h2, h⟩ := bnd_inv h
  obtain ⟨k, h3, h⟩ := bnd_inv h
  cases h
  obtain ⟨b0, e0⟩ := ownAt_inv h0
  obtain ⟨a0, s0, _⟩ := own_false R e0
  refine ⟨_, s0, G, ρ, d2, ρ2, R, h1, fun y H2 R2 r2 => ?_⟩
  obtain ⟨b1, e1⟩ := ownAt_inv h2
  obtain ⟨a1, s1, r1⟩ := own_false R2 e1
  rw [s0] at s1
  cases s1
  exact ⟨fun _ => False, _, _, k, r1, r2.weak fun _ z => z.elim, h3, hq k _ rfl R2⟩
theorem de_cmpO (i : Nat) {op : CmpOp} {g : D → D → Res Bool} (ho : OpR X (compareOp op) (rB X.K g)) (hb : PE X b (tE X.K fb)) (hN : X.N[i]? = some x := by rfl) (hv : Vis X.env.scope x := by first | exact Or.inl rfl | exact Or.inr (Or.inl rfl) | exact Or.inr (Or.inr rfl)) (hd : (x == ("__debug__" : Str)) = false := by decide)
    (hcd : (x == ("__classdict__" : Str)) = false := by decide) (hm : behindInMarks op b = false := by first | exact nomark _ | rfl) : PE X (.Compare (.Name x px) [op] [b] pos) (tE X.K (mCmpO g i fb)) := by
  refine PE.by (pe_cmpR ho (pv i hN hv hd hcd) hb hm) ?_
  rintro σ H Q ⟨G, ρ, d, ρ', R, hf, hq⟩
  exact rd_cmpO R hf fun k H' e R' kf => hq _ _ R' (by rw [e]; exact .bl k)
theorem dt_cmpO (i : Nat) {op : CmpOp} {g : D → D → Res Bool} (ho : OpR X (compareOp op) (rB X.K g)) (hb : PE X b (tE X.K fb)) (hN : X.N[i]? = some x := by rfl) (hv : Vis X.env.scope x := by first | exact Or.inl rfl | exact Or.inr (Or.inl rfl) | exact Or.inr (Or.inr rfl)) (hd : (x == ("__debug__" : Str)) = false := by decide)
    (hcd : (x == ("__classdict__" : Str)) = false := by decide) (hm : behindInMarks op b = false := by first | exact nomark _ | rfl) : PT X (.Compare (.Name x px) [op] [b] pos) (tTs X.K (mCmpO g i fb)) := by
  refine PT.by (pt_cmpR ho (pv i hN hv hd hcd) hb hm) ?_
  rintro σ H Q ⟨G, ρ, d, ρ', R, hf, hq⟩
  refine rd_cmpO (Q := fun v H' => ∃ b, v = .bl b ∧ (KF X.K H' → Q b H')) R hf fun k H' e R' => ?_
  cases e
  exact ⟨_, rfl, fun _ => hq _ R'⟩
/-- e in xs, e not in xs, xs a list of the def's own -/
def mCmpR (g : D → D → Res Bool) (fa : EvF) (i : Nat) : EvF := fun ρ => bnd (fa ρ) fun p => bnd (ownAt i p.2) fun xs => bnd (g p.1 (.list xs)) fun k => .ok (.bool k, p.2)
theorem rd_cmpR {K : PySem.W.Frag} {g : D → D → Res Bool} {i : Nat} {σ : St} {H : Hp} {G : Gh} {ρ ρ' : DEnv} {d : D} {Q : VK} (R : Rel K G ρ σ H) (hf : mCmpR g fb i ρ = .ok (d, ρ')) (hq : ∀ k H', d = .bool k → Rel K G ρ' σ H' → Q (.bl k) H') : tE K fb σ H fun x H1 => tVar i σ H1 fun y H2 => rB K g x y H2 Q := by
  obtain ⟨⟨d1, ρ1⟩, h1, h⟩ := bnd_inv hf
  obtain ⟨xs, h2, h⟩ := bnd_inv h
  obtain ⟨k, h3, h⟩ := bnd_inv h
  cases h
  refine ⟨G, ρ, d1, _, R, h1, fun y H2 R2 r2 => ?_⟩
  obtain ⟨b1, e1⟩ := ownAt_inv h2
  obtain ⟨a1, s1, r1⟩ := own_false R2 e1
  exact ⟨_, s1, fun _ => False, _, _, k, r2.weak fun _ z => z.elim, r1, h3, hq k _ rfl R2⟩
theorem de_cmpR' (i : Nat) {op : CmpOp} {g : D → D → Res Bool} (ho : OpR X (compareOp op) (rB X.K g)) (hb : PE X b (tE X.K fb)) (hN : X.N[i]? = some x := by rfl) (hv : Vis X.env.scope x := by first | exact Or.inl rfl | exact Or.inr (Or.inl rfl) | exact Or.inr (Or.inr rfl)) (hd : (x == ("__debug__" : Str)) = false := by decide)
    (hcd : (x == ("__classdict__" : Str)) = false := by decide) (hm : behindInMarks op (.Name x px) = false := by first | exact nomark _ | rfl) : PE X (.Compare b [op] [.Name x px] pos) (tE X.K (mCmpR g fb i)) := by
  refine PE.by (pe_cmpR ho hb (pv i hN hv hd hcd) hm) ?_
  rintro σ H Q ⟨G, ρ, d, ρ', R, hf, hq⟩
  exact rd_cmpR R hf fun k H' e R' kf => hq _ _ R' (by rw [e]; exact .bl k)
theorem dt_cmpR' (i : Nat) {op : CmpOp} {g : D → D → Res Bool} (ho : OpR X (compareOp op) (rB X.K g)) (hb : PE X b (tE X.K fb)) (hN : X.N[i]? = some x := by rfl) (hv : Vis X.env.scope x := by first | exact Or.inl rfl | exact Or.inr (Or.inl rfl) | exact Or.inr (Or.inr rfl)) (hd : (x == ("__debug__" : Str)) = false := by decide)
    (hcd : (x == ("__classdict__" : Str)) = false := by decide) (hm : behindInMarks op (.Name x px) = false := by first | exact nomark _ | rfl) : PT X (.Compare b [op] [.Name x px] pos) (tTs X.K (mCmpR g fb i)) := by
  refine PT.by (pt_cmpR ho hb (pv i hN hv hd hcd) hm) ?_
  rintro σ H Q ⟨G, ρ, d, ρ', R, hf, hq⟩
  refine rd_cmpR (Q := fun v H' => ∃ b, v = .bl b ∧ (KF X.K H' → Q b H')) R hf fun k H' e R' => ?_
  cases e
  exact ⟨_, rfl, fun _ => hq _ R'⟩
end
end L2.DL

namespace L2.DL
open PySem PySem.Spec PyProof.Rows
theorem bt_len : bootBuiltins "len" = some (.builtin "len") := by decide +kernel
theorem bt_abs : bootBuiltins "abs" = some (.builtin "abs") := by decide +kernel
theorem bt_int : bootBuiltins "int" = some (.type "int") := by decide +kernel
theorem bt_max : bootBuiltins "max" = some (.builtin "max") := by decide +kernel
theorem bt_min : bootBuiltins "min" = some (.builtin "min") := by decide +kernel
theorem bt_tuple : bootBuiltins "tuple" = some (.type "tuple") := by decide +kernel
theorem bt_list : bootBuiltins "list" = some (.type "list") := by decide +kernel
theorem bt_sorted : bootBuiltins "sorted" = some (.builtin "sorted") := by decide +kernel
theorem bt_sum : bootBuiltins "sum" = some (.builtin "sum") := by decide +kernel
theorem bt_all : bootBuiltins "all" = some (.builtin "all") := by decide +kernel
theorem bt_any : bootBuiltins "any" = some (.builtin "any") := by decide +kernel
section
variable {X : Cx} {pos : Pos}
theorem ds_par3 (i j l : Nat) {x y z : Str} {a b c : Expr} {k1 k2 k3 : Ek} {px py pz pt : Pos} {kt k2' pt2} (hc : X.calm = true) (hN : X.N.Nodup) (ha : PE X a (tK X.K k1)) (hb : PE X b (tK X.K k2)) (hcc : PE X c (tK X.K k3)) (hi : X.N[i]? = some x := by rfl) (hj : X.N[j]? = some y := by rfl) (hl : X.N[l]? = some z := by rfl)
    (hij : i ≠ j := by decide) (hil : i ≠ l := by decide) (hjl : j ≠ l := by decide)
    (hx : X.env.scope.names.lookup x = some .local := by rfl) (hy : X.env.scope.names.lookup y = some .local := by rfl) (hz : X.env.scope.names.lookup z = some .local := by rfl)
    (hw : swappedStores [.Tuple [.Name x px, .Name y py, .Name z pz] kt pt] (.Tuple [a, b, c] k2' pt2) X.env = pure (some [x, y, z]) := by rfl)
    (hs : swapsWithSole [.Tuple [.Name x px, .Name y py, .Name z pz] kt pt] (.Tuple [a, b, c] k2' pt2) pos.line X.env = pure false := by rfl)
    (e1 : starEach [a, b, c] X.env = (false, eval a X.env) :: starEach [b, c] X.env := by rfl) (e2 : starEach [b, c] X.env = (false, eval b X.env) :: starEach [c] X.env := by rfl) (e3 : starEach [c] X.env = (false, eval c X.env) :: starEach [] X.env := by rfl) :
    PS X (.Assign [.Tuple [.Name x px, .Name y py, .Name z pz] kt pt] (.Tuple [a, b, c] k2' pt2) pos) (tS X.K (mPar [i, j, l] [k1, k2, k3])) := by
  refine PS.imp (ps_par3 (ta := tKs X.K [k1, k2, k3]) hc hN hi hj hl hij hil hjl hx hy hz (pa_cons ha (pa_cons hb (pa_cons hcc pa_ks0 e3) e2) e1) hw hs) fun E σ H h => ?_
  refine rdp h fun vs H' e q => ?_
  match vs, e, q with
  | [u, v, w], _, q =>
    refine ⟨u, v, w, rfl, ?_⟩
    have e : ((σ.set i (some u)).set j (some v)).set l (some w) = setAll [i, j, l] [u, v, w] σ := by
      show _ = ((σ.set l (some w)).set j (some v)).set i (some u)
      rw [set_comm' hij, set_comm' hil, set_comm' hjl]
    rw [e]; exact q
end
end L2.DL

namespace L2.DL
open PySem PySem.Spec PyProof.Rows
/-! ## the denotations step by step, with no lambda in sight -/
section
variable {α β : Type} (i n : Nat) (g : D → D → Res D) (gb gb' : D → D → Res Bool) (f fa fb fc fi ft : EvF) (fs : EvA) (s s1 s2 : EvS) (ρ ρ' : DEnv) (d e : D) (ds xs zs : List D) (b : Bool)
def kRet (ρ : DEnv) (z : α) : Res (α × DEnv) := .ok (z, ρ)
@[simp] theorem kRet_ap (z : α) : kRet ρ z = .ok (z, ρ) := rfl
def kAp (g : α → Res β) (p : α × DEnv) : Res (β × DEnv) := bnd (g p.1) (kRet p.2)
@[simp] theorem kAp_ap (g : α → Res β) (x : α) : kAp g (x, ρ) = bnd (g x) (kRet ρ) := rfl
def kB (ρ : DEnv) (k : Bool) : Res (D × DEnv) := .ok (.bool k, ρ)
@[simp] theorem kB_ap (k : Bool) : kB ρ k = .ok (.bool k, ρ) := rfl
def kNx (ρ : DEnv) : Res (Ctl × DEnv) := .ok (.nx, ρ)
@[simp] theorem kNx_ap : kNx ρ = .ok (.nx, ρ) := rfl
@[simp] theorem mVar_ap : mVar i ρ = (match ρ[i]? with | some (some (Sl.dat d)) => .ok (d, ρ) | _ => stuck) := rfl
@[simp] theorem mC_ap : mC d ρ = .ok (d, ρ) := rfl
-- operators
def kOp2 (g : D → D → Res α) (d : D) (q : D × DEnv) : Res (α × DEnv) := bnd (g d q.1) (kRet q.2)
def kOp (g : D → D → Res α) (fb : EvF) (p : D × DEnv) : Res (α × DEnv) := bnd (fb p.2) (kOp2 g p.1)
@[simp] theorem kOp2_ap (g : D → D → Res α) : kOp2 g d (e, ρ) = bnd (g d e) (kRet ρ) := rfl
@[simp] theorem kOp_ap (g : D → D → Res α) : kOp g fb (d, ρ) = bnd (fb ρ) (kOp2 g d) := rfl
@[simp] theorem mOp_ap : mOp g fa fb ρ = bnd (fa ρ) (kOp g fb) := rfl
def kCmp2 (g : D → D → Res Bool) (d : D) (q : D × DEnv) : Res (D × DEnv) := bnd (g d q.1) (kB q.2)
def kCmp (g : D → D → Res Bool) (fb : EvF) (p : D × DEnv) : Res (D × DEnv) := bnd (fb p.2) (kCmp2 g p.1)
@[simp] theorem kCmp2_ap : kCmp2 gb d (e, ρ) = bnd (gb d e) (kB ρ) := rfl
@[simp] theorem kCmp_ap : kCmp gb fb (d, ρ) = bnd (fb ρ) (kCmp2 gb d) := rfl
@[simp] theorem mCmp_ap : mCmp gb fa fb ρ = bnd (fa ρ) (kCmp gb fb) := rfl
def kCh3 (g' : D → D → Res Bool) (e : D) (fc : EvF) (ρ : DEnv) (k : Bool) : Res (D × DEnv) := if k = true then bnd (fc ρ) (kCmp2 g' e) else .ok (.bool false, ρ)
def kCh2 (g g' : D → D → Res Bool) (d : D) (fc : EvF) (q : D × DEnv) : Res (D × DEnv) := bnd (g d q.1) (kCh3 g' q.1 fc q.2)
def kCh (g g' : D → D → Res Bool) (fb fc : EvF) (p : D × DEnv) : Res (D × DEnv) := bnd (fb p.2) (kCh2 g g' p.1 fc)
@[simp] theorem kCh3_ap (k : Bool) : kCh3 gb e fc ρ k = if k = true then bnd (fc ρ) (kCmp2 gb e) else .ok (.bool false, ρ) := rfl
@[simp] theorem kCh2_ap : kCh2 gb gb' d fc (e, ρ) = bnd (gb d e) (kCh3 gb' e fc ρ) := rfl
@[simp] theorem kCh_ap : kCh gb gb' fb fc (d, ρ) = bnd (fb ρ) (kCh2 gb gb' d fc) := rfl
@[simp] theorem mChain_ap : mChain gb gb' fa fb fc ρ = bnd (fa ρ) (kCh gb gb' fb fc) := rfl
def kAnd (fb : EvF) (p : D × DEnv) : Res (D × DEnv) := match p.1 with
  | .bool true => fb p.2
  | .bool false => .ok (.bool false, p.2)
  | _ => stuck
@[simp] theorem kAnd_ap : kAnd fb (.bool b, ρ) = if b = true then fb ρ else .ok (.bool false, ρ) := by cases b <;> rfl
@[simp] theorem mAnd_ap : mAnd fa fb ρ = bnd (fa ρ) (kAnd fb) := rfl
def kOr (fb : EvF) (p : D × DEnv) : Res (D × DEnv) := match p.1 with
  | .bool true => .ok (.bool true, p.2)
  | .bool false => fb p.2
  | _ => stuck
@[simp] theorem kOr_ap : kOr fb (.bool b, ρ) = if b = true then .ok (.bool true, ρ) else fb ρ := by cases b <;> rfl
@[simp] theorem mOr_ap : mOr fa fb ρ = bnd (fa ρ) (kOr fb) := rfl
def kNot (p : D × DEnv) : Res (D × DEnv) := match p.1 with
  | .bool b => .ok (.bool (!b), p.2)
  | _ => stuck
@[simp] theorem kNot_ap : kNot (.bool b, ρ) = .ok (.bool (!b), ρ) := rfl
@[simp] theorem mNot_ap : mNot fa ρ = bnd (fa ρ) kNot := rfl
def kIf (fa fb : EvF) (p : D × DEnv) : Res (D × DEnv) := match p.1 with
  | .bool true => fa p.2
  | .bool false => fb p.2
  | _ => stuck
@[simp] theorem kIf_ap : kIf fa fb (.bool b, ρ) = if b = true then fa ρ else fb ρ := by cases b <;> rfl
@[simp] theorem mIf_ap : mIf fc fa fb ρ = bnd (fc ρ) (kIf fa fb) := rfl
@[simp] theorem mUn_ap (g : D → Res D) : mUn g fa ρ = bnd (fa ρ) (kAp g) := rfl
@[simp] theorem mNil_ap : mNil ρ = .ok ([], ρ) := rfl
def kCons2 (d : D) (q : List D × DEnv) : Res (List D × DEnv) := .ok (d :: q.1, q.2)
def kCons (fs : EvA) (p : D × DEnv) : Res (List D × DEnv) := bnd (fs p.2) (kCons2 p.1)
@[simp] theorem kCons2_ap : kCons2 d (ds, ρ) = .ok (d :: ds, ρ) := rfl
@[simp] theorem kCons_ap : kCons fs (d, ρ) = bnd (fs ρ) (kCons2 d) := rfl
@[simp] theorem mCons_ap : mCons fa fs ρ = bnd (fa ρ) (kCons fs) := rfl
def kTup (p : List D × DEnv) : Res (D × DEnv) := if p.1.length ≤ 1000 then .ok (.tuple p.1, p.2) else stuck
@[simp] theorem kTup_ap : kTup (ds, ρ) = if ds.length ≤ 1000 then .ok (.tuple ds, ρ) else stuck := rfl
@[simp] theorem mTup_ap : mTup fs ρ = bnd (fs ρ) kTup := rfl
def kLst (p : List D × DEnv) : Res (List D × DEnv) := if p.1.length ≤ 1000 then .ok p else stuck
@[simp] theorem kLst_ap : kLst (ds, ρ) = if ds.length ≤ 1000 then .ok (ds, ρ) else stuck := rfl
@[simp] theorem mLst_ap : mLst fs ρ = bnd (fs ρ) kLst := rfl
def kOfL (p : List D × DEnv) : Res (D × DEnv) := .ok (.list p.1, p.2)
@[simp] theorem kOfL_ap : kOfL (ds, ρ) = .ok (.list ds, ρ) := rfl
@[simp] theorem mOfL_ap : mOfL fs ρ = bnd (fs ρ) kOfL := rfl
@[simp] theorem mView_ap : mView f ρ = bnd (f ρ) (kAp seqD) := rfl
@[simp] theorem seqD_l : seqD (.list ds) = .ok (false, ds) := rfl
@[simp] theorem seqD_t : seqD (.tuple ds) = .ok (true, ds) := rfl
@[simp] theorem mOwn_ap : mOwn i ρ = (match ρ[i]? with | some (some (Sl.own _ xs)) => .ok ((false, xs), ρ) | _ => stuck) := rfl
def kZip4 (z : Bool × List D) (ρ : DEnv) (z2 : Bool × List D) : Res (List D × DEnv) := .ok (zipL z.2 z2.2, ρ)
def kZip3 (e : D) (ρ : DEnv) (z : Bool × List D) : Res (List D × DEnv) := bnd (seqD e) (kZip4 z ρ)
def kZip2 (d : D) (q : D × DEnv) : Res (List D × DEnv) := bnd (seqD d) (kZip3 q.1 q.2)
def kZip (f2 : EvF) (p : D × DEnv) : Res (List D × DEnv) := bnd (f2 p.2) (kZip2 p.1)
@[simp] theorem kZip4_ap (z z2 : Bool × List D) : kZip4 z ρ z2 = .ok (zipL z.2 z2.2, ρ) := rfl
@[simp] theorem kZip3_ap (z : Bool × List D) : kZip3 e ρ z = bnd (seqD e) (kZip4 z ρ) := rfl
@[simp] theorem kZip2_ap : kZip2 d (e, ρ) = bnd (seqD d) (kZip3 e ρ) := rfl
@[simp] theorem kZip_ap : kZip fb (d, ρ) = bnd (fb ρ) (kZip2 d) := rfl
@[simp] theorem mZip_ap : mZip fa fb ρ = bnd (fa ρ) (kZip fb) := rfl
@[simp] theorem ownAt_ap : ownAt i ρ = (match ρ[i]? with | some (some (Sl.own _ xs)) => .ok xs | _ => stuck) := rfl
@[simp] theorem ownAt2_ap : ownAt2 i ρ = (match ρ[i]? with | some (some (Sl.own b xs)) => .ok (b, xs) | _ => stuck) := rfl
def kCmpO3 (g : D → D → Res Bool) (e : D) (ρ : DEnv) (xs : List D) : Res (D × DEnv) := bnd (g (.list xs) e) (kB ρ)
def kCmpO2 (g : D → D → Res Bool) (i : Nat) (q : D × DEnv) : Res (D × DEnv) := bnd (ownAt i q.2) (kCmpO3 g q.1 q.2)
def kCmpO (g : D → D → Res Bool) (i : Nat) (fb : EvF) (ρ : DEnv) (_ : List D) : Res (D × DEnv) := bnd (fb ρ) (kCmpO2 g i)
@[simp] theorem kCmpO3_ap : kCmpO3 gb e ρ xs = bnd (gb (.list xs) e) (kB ρ) := rfl
@[simp] theorem kCmpO2_ap : kCmpO2 gb i (e, ρ) = bnd (ownAt i ρ) (kCmpO3 gb e ρ) := rfl
@[simp] theorem kCmpO_ap : kCmpO gb i fb ρ xs = bnd (fb ρ) (kCmpO2 gb i) := rfl
@[simp] theorem mCmpO_ap : mCmpO gb i fb ρ = bnd (ownAt i ρ) (kCmpO gb i fb ρ) := rfl
def kCmpR2 (g : D → D → Res Bool) (d : D) (ρ : DEnv) (xs : List D) : Res (D × DEnv) := bnd (g d (.list xs)) (kB ρ)
def kCmpR (g : D → D → Res Bool) (i : Nat) (p : D × DEnv) : Res (D × DEnv) := bnd (ownAt i p.2) (kCmpR2 g p.1 p.2)
@[simp] theorem kCmpR2_ap : kCmpR2 gb d ρ xs = bnd (gb d (.list xs)) (kB ρ) := rfl
@[simp] theorem kCmpR_ap : kCmpR gb i (d, ρ) = bnd (ownAt i ρ) (kCmpR2 gb d ρ) := rfl
@[simp] theorem mCmpR_ap : mCmpR gb fa i ρ = bnd (fa ρ) (kCmpR gb i) := rfl
def kIxO3 (d : D) (ρ : DEnv) (xs : List D) : Res (D × DEnv) := bnd (ixD (.list xs) d) (kRet ρ)
def kIxO2 (i : Nat) (q : D × DEnv) : Res (D × DEnv) := bnd (ownAt i q.2) (kIxO3 q.1 q.2)
def kIxO (i : Nat) (fb : EvF) (ρ : DEnv) (_ : List D) : Res (D × DEnv) := bnd (fb ρ) (kIxO2 i)
@[simp] theorem kIxO3_ap : kIxO3 d ρ xs = bnd (ixD (.list xs) d) (kRet ρ) := rfl
@[simp] theorem kIxO2_ap : kIxO2 i (d, ρ) = bnd (ownAt i ρ) (kIxO3 d ρ) := rfl
@[simp] theorem kIxO_ap : kIxO i fb ρ xs = bnd (fb ρ) (kIxO2 i) := rfl
@[simp] theorem mIxOwn_ap : mIxOwn i fb ρ = bnd (ownAt i ρ) (kIxO i fb ρ) := rfl
-- slices
@[simp] theorem mNo_ap : mNo ρ = .ok (none, ρ) := rfl
def kSo (p : D × DEnv) : Res (Option Int × DEnv) := match p.1 with | .int i => .ok (some i, p.2) | _ => stuck
@[simp] theorem kSo_ap (j : Int) : kSo (.int j, ρ) = .ok (some j, ρ) := rfl
@[simp] theorem mSo_ap : mSo f ρ = bnd (f ρ) kSo := rfl
def kSl3 (d : D) (lo : Option Int) (r : Option Int × DEnv) : Res (D × DEnv) := bnd (slD d lo r.1) (kRet r.2)
def kSl2 (d : D) (fh : EvO) (q : Option Int × DEnv) : Res (D × DEnv) := bnd (fh q.2) (kSl3 d q.1)
def kSl (fl fh : EvO) (p : D × DEnv) : Res (D × DEnv) := bnd (fl p.2) (kSl2 p.1 fh)
@[simp] theorem kSl3_ap (lo hi : Option Int) : kSl3 d lo (hi, ρ) = bnd (slD d lo hi) (kRet ρ) := rfl
@[simp] theorem kSl2_ap (fh : EvO) (lo : Option Int) : kSl2 d fh (lo, ρ) = bnd (fh ρ) (kSl3 d lo) := rfl
@[simp] theorem kSl_ap (fl fh : EvO) : kSl fl fh (d, ρ) = bnd (fl ρ) (kSl2 d fh) := rfl
@[simp] theorem mSl_ap (fl fh : EvO) : mSl f fl fh ρ = bnd (f ρ) (kSl fl fh) := rfl
@[simp] theorem slD_l (lo hi : Option Int) : slD (.list xs) lo hi = .ok (.list (cutD xs lo hi)) := rfl
@[simp] theorem slD_t (lo hi : Option Int) : slD (.tuple xs) lo hi = .ok (.tuple (cutD xs lo hi)) := rfl
def kSlL3 (d : D) (lo : Option Int) (r : Option Int × DEnv) : Res (List D × DEnv) := match d with | .list xs => .ok (cutD xs lo r.1, r.2) | _ => stuck
def kSlL2 (d : D) (fh : EvO) (q : Option Int × DEnv) : Res (List D × DEnv) := bnd (fh q.2) (kSlL3 d q.1)
def kSlL (fl fh : EvO) (p : D × DEnv) : Res (List D × DEnv) := bnd (fl p.2) (kSlL2 p.1 fh)
@[simp] theorem kSlL3_ap (lo hi : Option Int) : kSlL3 (.list xs) lo (hi, ρ) = .ok (cutD xs lo hi, ρ) := rfl
@[simp] theorem kSlL2_ap (fh : EvO) (lo : Option Int) : kSlL2 d fh (lo, ρ) = bnd (fh ρ) (kSlL3 d lo) := rfl
@[simp] theorem kSlL_ap (fl fh : EvO) : kSlL fl fh (d, ρ) = bnd (fl ρ) (kSlL2 d fh) := rfl
@[simp] theorem mSlL_ap (fl fh : EvO) : mSlL f fl fh ρ = bnd (f ρ) (kSlL fl fh) := rfl
-- calls of built-ins
@[simp] theorem mV_ap (g : Bool × List D → Res D) (fv : EvV) : mV g fv ρ = bnd (fv ρ) (kAp g) := rfl
@[simp] theorem mVL_ap (g : Bool × List D → Res (List D)) (fv : EvV) : mVL g fv ρ = bnd (fv ρ) (kAp g) := rfl
@[simp] theorem mDs_ap (g : List D → Res D) : mDs g fs ρ = bnd (fs ρ) (kAp g) := rfl
def kIsi (T : Ty) (q : D × DEnv) : Res (D × DEnv) := .ok (.bool (isT T q.1), q.2)
@[simp] theorem kIsi_ap (T : Ty) : kIsi T (d, ρ) = .ok (.bool (isT T d), ρ) := rfl
@[simp] theorem mIsi_ap (T : Ty) : mIsi T f ρ = bnd (f ρ) (kIsi T) := rfl
def kIsiT (T U : Ty) (q : D × DEnv) : Res (D × DEnv) := .ok (.bool (isT T q.1 || isT U q.1), q.2)
@[simp] theorem kIsiT_ap (T U : Ty) : kIsiT T U (d, ρ) = .ok (.bool (isT T d || isT U d), ρ) := rfl
@[simp] theorem mIsiT_ap (T U : Ty) : mIsiT [T, U] f ρ = bnd (f ρ) (kIsiT T U) := by
  unfold mIsiT
  congr 1
  funext q
  simp [kIsiT]
@[simp] theorem lenS_ap : lenS (b, xs) = .ok (.int (xs.length : Int)) := rfl
@[simp] theorem tupS_ap : tupS (b, xs) = .ok (.tuple xs) := rfl
@[simp] theorem lstS_ap : lstS (b, xs) = .ok xs := rfl
-- targets
@[simp] theorem gN_ap : gN i d ρ = if i < ρ.length then .ok (ρ.set i (some (Sl.dat d))) else stuck := rfl
@[simp] theorem gT_ap (gs : EvGs) : gT gs n (.tuple xs) ρ = if xs.length = n then gs xs ρ else stuck := rfl
@[simp] theorem gsN_ap : gsN [] ρ = .ok ρ := rfl
@[simp] theorem gsC_ap (g : EvG) (gs : EvGs) : gsC g gs (d :: ds) ρ = bnd (g d ρ) (gs ds) := rfl
-- statements
@[simp] theorem mNx_ap : mNx ρ = .ok (.nx, ρ) := rfl
@[simp] theorem mBk_ap : mBk ρ = .ok (.bk, ρ) := rfl
@[simp] theorem mCt_ap : mCt ρ = .ok (.ct, ρ) := rfl
def kSeq (g : EvS) (p : Ctl × DEnv) : Res (Ctl × DEnv) := match p.1 with
  | .nx => g p.2
  | c => .ok (c, p.2)
@[simp] theorem kSeq_nx : kSeq s (.nx, ρ) = s ρ := rfl
@[simp] theorem kSeq_rt : kSeq s (.rt d, ρ) = .ok (.rt d, ρ) := rfl
@[simp] theorem kSeq_bk : kSeq s (.bk, ρ) = .ok (.bk, ρ) := rfl
@[simp] theorem kSeq_ct : kSeq s (.ct, ρ) = .ok (.ct, ρ) := rfl
@[simp] theorem mSeq_ap : mSeq s1 s2 ρ = bnd (s1 ρ) (kSeq s2) := rfl
def kRt (p : D × DEnv) : Res (Ctl × DEnv) := .ok (.rt p.1, p.2)
@[simp] theorem kRt_ap : kRt (d, ρ) = .ok (.rt d, ρ) := rfl
@[simp] theorem mRet_ap : mRet f ρ = bnd (f ρ) kRt := rfl
@[simp] theorem mRetN_ap : mRetN ρ = .ok (.rt .none, ρ) := rfl
@[simp] theorem mFrz_ap : mFrz i s ρ = (match ρ[i]? with | some (some (Sl.own false xs)) => s (ρ.set i (some (Sl.dat (.list xs)))) | _ => stuck) := rfl
def kIfS (f g : EvS) (p : D × DEnv) : Res (Ctl × DEnv) := match p.1 with
  | .bool true => f p.2
  | .bool false => g p.2
  | _ => stuck
@[simp] theorem kIfS_ap : kIfS s1 s2 (.bool b, ρ) = if b = true then s1 ρ else s2 ρ := by cases b <;> rfl
@[simp] theorem mIfS_ap : mIfS fc s1 s2 ρ = bnd (fc ρ) (kIfS s1 s2) := rfl
def kSet (i : Nat) (p : D × DEnv) : Res (Ctl × DEnv) := if i < p.2.length then .ok (.nx, p.2.set i (some (Sl.dat p.1))) else stuck
@[simp] theorem kSet_ap : kSet i (d, ρ) = if i < ρ.length then .ok (.nx, ρ.set i (some (Sl.dat d))) else stuck := rfl
@[simp] theorem mSet_ap : mSet i f ρ = bnd (f ρ) (kSet i) := rfl
def kSetO (i : Nat) (p : List D × DEnv) : Res (Ctl × DEnv) := if i < p.2.length then .ok (.nx, p.2.set i (some (Sl.own false p.1))) else stuck
@[simp] theorem kSetO_ap : kSetO i (ds, ρ) = if i < ρ.length then .ok (.nx, ρ.set i (some (Sl.own false ds))) else stuck := rfl
@[simp] theorem mSetOwn_ap : mSetOwn i fs ρ = bnd (fs ρ) (kSetO i) := rfl
def kAsg (g : EvG) (p : D × DEnv) : Res (Ctl × DEnv) := bnd (g p.1 p.2) kNx
@[simp] theorem kAsg_ap (g : EvG) : kAsg g (d, ρ) = bnd (g d ρ) kNx := rfl
@[simp] theorem mAsg_ap (g : EvG) : mAsg f g ρ = bnd (f ρ) (kAsg g) := rfl
def kAug3 (i : Nat) (ρ : DEnv) (z : D) : Res (Ctl × DEnv) := if i < ρ.length then .ok (.nx, ρ.set i (some (Sl.dat z))) else stuck
def kAug2 (i : Nat) (g : D → D → Res D) (d : D) (q : D × DEnv) : Res (Ctl × DEnv) := bnd (g d q.1) (kAug3 i q.2)
def kAug (i : Nat) (g : D → D → Res D) (f : EvF) (ρ : DEnv) (p : D × DEnv) : Res (Ctl × DEnv) := bnd (f ρ) (kAug2 i g p.1)
@[simp] theorem kAug3_ap : kAug3 i ρ d = if i < ρ.length then .ok (.nx, ρ.set i (some (Sl.dat d))) else stuck := rfl
@[simp] theorem kAug2_ap : kAug2 i g d (e, ρ) = bnd (g d e) (kAug3 i ρ) := rfl
@[simp] theorem kAug_ap : kAug i g f ρ (d, ρ') = bnd (f ρ) (kAug2 i g d) := rfl
@[simp] theorem mAug_ap : mAug i g f ρ = bnd (mVar i ρ) (kAug i g f ρ) := rfl
def kApp3 (i : Nat) (d : D) (ρ : DEnv) (p : Bool × List D) : Res (Ctl × DEnv) := if p.2.length < lim then .ok (.nx, ρ.set i (some (Sl.own p.1 (p.2 ++ [d])))) else stuck
def kApp2 (i : Nat) (q : D × DEnv) : Res (Ctl × DEnv) := bnd (ownAt2 i q.2) (kApp3 i q.1 q.2)
def kApp (i : Nat) (f : EvF) (ρ : DEnv) (_ : Bool × List D) : Res (Ctl × DEnv) := bnd (f ρ) (kApp2 i)
@[simp] theorem kApp3_ap : kApp3 i d ρ (b, xs) = if xs.length < lim then .ok (.nx, ρ.set i (some (Sl.own b (xs ++ [d])))) else stuck := rfl
@[simp] theorem kApp2_ap : kApp2 i (d, ρ) = bnd (ownAt2 i ρ) (kApp3 i d ρ) := rfl
@[simp] theorem kApp_ap (p : Bool × List D) : kApp i f ρ p = bnd (f ρ) (kApp2 i) := rfl
@[simp] theorem mApp_ap : mApp i f ρ = bnd (ownAt2 i ρ) (kApp i f ρ) := rfl
def kExt3 (i : Nat) (ds : List D) (ρ : DEnv) (p : Bool × List D) : Res (Ctl × DEnv) := if p.2.length + ds.length ≤ lim then .ok (.nx, ρ.set i (some (Sl.own p.1 (p.2 ++ ds)))) else stuck
def kExt2 (i : Nat) (q : List D × DEnv) : Res (Ctl × DEnv) := bnd (ownAt2 i q.2) (kExt3 i q.1 q.2)
def kExt (i : Nat) (f : EvA) (ρ : DEnv) (_ : Bool × List D) : Res (Ctl × DEnv) := bnd (f ρ) (kExt2 i)
@[simp] theorem kExt3_ap : kExt3 i ds ρ (b, xs) = if xs.length + ds.length ≤ lim then .ok (.nx, ρ.set i (some (Sl.own b (xs ++ ds)))) else stuck := rfl
@[simp] theorem kExt2_ap : kExt2 i (ds, ρ) = bnd (ownAt2 i ρ) (kExt3 i ds ρ) := rfl
@[simp] theorem kExt_ap (p : Bool × List D) : kExt i fs ρ p = bnd (fs ρ) (kExt2 i) := rfl
@[simp] theorem mExt_ap : mExt i fs ρ = bnd (ownAt2 i ρ) (kExt i fs ρ) := rfl
def kSto5 (i : Nat) (v : D) (b : Bool) (xs : List D) (ρ : DEnv) (j : Option Nat) : Res (Ctl × DEnv) := match j with
  | some j => .ok (.nx, ρ.set i (some (Sl.own b (xs.set j v))))
  | none => stuck
@[simp] theorem kSto5_ap (v : D) (j : Nat) : kSto5 i v b xs ρ (some j) = .ok (.nx, ρ.set i (some (Sl.own b (xs.set j v)))) := rfl
def kSto4 (i : Nat) (v k : D) (ρ : DEnv) (p : Bool × List D) : Res (Ctl × DEnv) := match k with
  | .int k => kSto5 i v p.1 p.2 ρ (ixN p.2.length k)
  | _ => stuck
def kSto3 (i : Nat) (v : D) (q : D × DEnv) : Res (Ctl × DEnv) := bnd (ownAt2 i q.2) (kSto4 i v q.1 q.2)
def kSto2 (i : Nat) (fi : EvF) (v : D × DEnv) (_ : Bool × List D) : Res (Ctl × DEnv) := bnd (fi v.2) (kSto3 i v.1)
def kSto (i : Nat) (fi : EvF) (v : D × DEnv) : Res (Ctl × DEnv) := bnd (ownAt2 i v.2) (kSto2 i fi v)
@[simp] theorem kSto4_ap (v : D) (k : Int) : kSto4 i v (.int k) ρ (b, xs) = kSto5 i v b xs ρ (ixN xs.length k) := rfl
@[simp] theorem kSto3_ap (v k : D) : kSto3 i v (k, ρ) = bnd (ownAt2 i ρ) (kSto4 i v k ρ) := rfl
@[simp] theorem kSto2_ap (v : D) (p : Bool × List D) : kSto2 i fi (v, ρ) p = bnd (fi ρ) (kSto3 i v) := rfl
@[simp] theorem kSto_ap (v : D) : kSto i fi (v, ρ) = bnd (ownAt2 i ρ) (kSto2 i fi (v, ρ)) := rfl
@[simp] theorem mStore_ap : mStore i f fi ρ = bnd (f ρ) (kSto i fi) := rfl
def kAgs8 (i : Nat) (ρ : DEnv) (b : Bool) (xs : List D) (j : Nat) (z : D) : Res (Ctl × DEnv) := .ok (.nx, ρ.set i (some (Sl.own b (xs.set j z))))
def kAgs7 (i : Nat) (g : D → D → Res D) (old e : D) (ρ : DEnv) (b : Bool) (xs : List D) (j : Option Nat) : Res (Ctl × DEnv) := match j with
  | some j => bnd (g old e) (kAgs8 i ρ b xs j)
  | none => stuck
def kAgs6 (i : Nat) (g : D → D → Res D) (k : Int) (old e : D) (ρ : DEnv) (p : Bool × List D) : Res (Ctl × DEnv) := kAgs7 i g old e ρ p.1 p.2 (ixN p.2.length k)
def kAgs5 (i : Nat) (g : D → D → Res D) (k : Int) (old : D) (r : D × DEnv) : Res (Ctl × DEnv) := bnd (ownAt2 i r.2) (kAgs6 i g k old r.1 r.2)
def kAgs4 (i : Nat) (g : D → D → Res D) (f : EvF) (k : Int) (ρ : DEnv) (o : Option D) : Res (Ctl × DEnv) := match o with
  | some old => bnd (f ρ) (kAgs5 i g k old)
  | none => stuck
def kAgs3 (i : Nat) (g : D → D → Res D) (f : EvF) (k : D) (ρ : DEnv) (p : Bool × List D) : Res (Ctl × DEnv) := match k with
  | .int k => kAgs4 i g f k ρ (atI p.2 k)
  | _ => stuck
def kAgs2 (i : Nat) (g : D → D → Res D) (f : EvF) (q : D × DEnv) : Res (Ctl × DEnv) := bnd (ownAt2 i q.2) (kAgs3 i g f q.1 q.2)
def kAgs (i : Nat) (g : D → D → Res D) (fi f : EvF) (ρ : DEnv) (_ : Bool × List D) : Res (Ctl × DEnv) := bnd (fi ρ) (kAgs2 i g f)
@[simp] theorem kAgs8_ap (j : Nat) : kAgs8 i ρ b xs j d = .ok (.nx, ρ.set i (some (Sl.own b (xs.set j d)))) := rfl
@[simp] theorem kAgs7_ap (j : Nat) : kAgs7 i g d e ρ b xs (some j) = bnd (g d e) (kAgs8 i ρ b xs j) := rfl
@[simp] theorem kAgs6_ap (k : Int) : kAgs6 i g k d e ρ (b, xs) = kAgs7 i g d e ρ b xs (ixN xs.length k) := rfl
@[simp] theorem kAgs5_ap (k : Int) : kAgs5 i g k d (e, ρ) = bnd (ownAt2 i ρ) (kAgs6 i g k d e ρ) := rfl
@[simp] theorem kAgs4_ap (k : Int) : kAgs4 i g f k ρ (some d) = bnd (f ρ) (kAgs5 i g k d) := rfl
@[simp] theorem kAgs3_ap (k : Int) : kAgs3 i g f (.int k) ρ (b, xs) = kAgs4 i g f k ρ (atI xs k) := rfl
@[simp] theorem kAgs2_ap : kAgs2 i g f (d, ρ) = bnd (ownAt2 i ρ) (kAgs3 i g f d ρ) := rfl
@[simp] theorem kAgs_ap (p : Bool × List D) : kAgs i g fi f ρ p = bnd (fi ρ) (kAgs2 i g f) := rfl
@[simp] theorem mAugS_ap : mAugS i g fi f ρ = bnd (ownAt2 i ρ) (kAgs i g fi f ρ) := rfl
def kPop5 (i : Nat) (ρ : DEnv) (b : Bool) (xs : List D) (j : Nat) (o : Option D) : Res (D × DEnv) := match o with
  | some d => .ok (d, ρ.set i (some (Sl.own b (xs.eraseIdx j))))
  | none => stuck
def kPop4 (i : Nat) (ρ : DEnv) (b : Bool) (xs : List D) (o : Option Nat) : Res (D × DEnv) := match o with
  | some j => kPop5 i ρ b xs j xs[j]?
  | none => stuck
def kPop3 (i : Nat) (k : D) (ρ : DEnv) (p : Bool × List D) : Res (D × DEnv) := match k with
  | .int k => if -1000000 ≤ k ∧ k ≤ 1000000 then kPop4 i ρ p.1 p.2 (ixN p.2.length k) else stuck
  | _ => stuck
def kPop2 (i : Nat) (q : D × DEnv) : Res (D × DEnv) := bnd (ownAt2 i q.2) (kPop3 i q.1 q.2)
def kPop (i : Nat) (f : EvF) (ρ : DEnv) (_ : Bool × List D) : Res (D × DEnv) := bnd (f ρ) (kPop2 i)
@[simp] theorem kPop5_ap (j : Nat) : kPop5 i ρ b xs j (some d) = .ok (d, ρ.set i (some (Sl.own b (xs.eraseIdx j)))) := rfl
@[simp] theorem kPop4_ap (j : Nat) : kPop4 i ρ b xs (some j) = kPop5 i ρ b xs j xs[j]? := rfl
@[simp] theorem kPop3_ap (k : Int) : kPop3 i (.int k) ρ (b, xs) = if -1000000 ≤ k ∧ k ≤ 1000000 then kPop4 i ρ b xs (ixN xs.length k) else stuck := rfl
@[simp] theorem kPop2_ap : kPop2 i (d, ρ) = bnd (ownAt2 i ρ) (kPop3 i d ρ) := rfl
@[simp] theorem kPop_ap (p : Bool × List D) : kPop i f ρ p = bnd (f ρ) (kPop2 i) := rfl
@[simp] theorem mPopAt_ap : mPopAt i f ρ = bnd (ownAt2 i ρ) (kPop i f ρ) := rfl
-- loops
def kFor (g : EvG) (b : EvS) (p : List D × DEnv) : Res (Ctl × DEnv) := forL g b p.1 p.2
@[simp] theorem kFor_ap (g : EvG) : kFor g s (ds, ρ) = forL g s ds ρ := rfl
@[simp] theorem mFor_ap (g : EvG) : mFor fs g s ρ = bnd (fs ρ) (kFor g s) := rfl
@[simp] theorem forL_nil (g : EvG) : forL g s [] ρ = .ok (.nx, ρ) := rfl
def kFL2 (g : EvG) (b : EvS) (ds : List D) (p : Ctl × DEnv) : Res (Ctl × DEnv) := match p.1 with
  | .nx => forL g b ds p.2
  | .ct => forL g b ds p.2
  | .bk => .ok (.nx, p.2)
  | .rt d => .ok (.rt d, p.2)
def kFL (g : EvG) (b : EvS) (ds : List D) (ρ : DEnv) : Res (Ctl × DEnv) := bnd (b ρ) (kFL2 g b ds)
theorem forL_cons (g : EvG) : forL g s (d :: ds) ρ = bnd (g d ρ) (kFL g s ds) := rfl
@[simp] theorem kFL_ap (g : EvG) : kFL g s ds ρ = bnd (s ρ) (kFL2 g s ds) := rfl
@[simp] theorem kFL2_nx (g : EvG) : kFL2 g s ds (.nx, ρ) = forL g s ds ρ := rfl
@[simp] theorem kFL2_ct (g : EvG) : kFL2 g s ds (.ct, ρ) = forL g s ds ρ := rfl
@[simp] theorem kFL2_bk (g : EvG) : kFL2 g s ds (.bk, ρ) = .ok (.nx, ρ) := rfl
@[simp] theorem kFL2_rt (g : EvG) : kFL2 g s ds (.rt d, ρ) = .ok (.rt d, ρ) := rfl
def kSnd (ρ : DEnv) (z : Bool × List D) : Res (List D × DEnv) := .ok (z.2, ρ)
def kSeqI (p : D × DEnv) : Res (List D × DEnv) := bnd (seqD p.1) (kSnd p.2)
@[simp] theorem kSnd_ap (z : Bool × List D) : kSnd ρ z = .ok (z.2, ρ) := rfl
@[simp] theorem kSeqI_ap : kSeqI (d, ρ) = bnd (seqD d) (kSnd ρ) := rfl
@[simp] theorem mSeqI_ap : mSeqI f ρ = bnd (f ρ) kSeqI := rfl
@[simp] theorem mRng1_ap : mRng1 f ρ = bnd (f ρ) (kAp rng1) := rfl
@[simp] theorem mRng2_ap : mRng2 fa fb ρ = bnd (fa ρ) (kOp rng2 fb) := rfl
def kEn (ρ : DEnv) (z : Bool × List D) : Res (List D × DEnv) := .ok (enumL z.2, ρ)
def kEnum (p : D × DEnv) : Res (List D × DEnv) := bnd (seqD p.1) (kEn p.2)
@[simp] theorem kEn_ap (z : Bool × List D) : kEn ρ z = .ok (enumL z.2, ρ) := rfl
@[simp] theorem kEnum_ap : kEnum (d, ρ) = bnd (seqD d) (kEn ρ) := rfl
@[simp] theorem mEnum_ap : mEnum f ρ = bnd (f ρ) kEnum := rfl
def kComp2 (ρ : DEnv) (vs : List Nat) (z : List D × DEnv) : Res (List D × DEnv) := .ok (z.1, restD z.2 ρ vs)
def kComp (vs : List Nat) (g : EvG) (tt e : EvF) (p : List D × DEnv) : Res (List D × DEnv) := if p.1.length ≤ lim ∧ noOwn p.2 vs = true then bnd (compL g tt e vs p.1 (wipeD p.2 vs)) (kComp2 p.2 vs) else stuck
@[simp] theorem kComp2_ap (vs : List Nat) : kComp2 ρ vs (zs, ρ') = .ok (zs, restD ρ' ρ vs) := rfl
@[simp] theorem kComp_ap (vs : List Nat) (g : EvG) : kComp vs g ft fa (ds, ρ) = if ds.length ≤ lim ∧ noOwn ρ vs = true then bnd (compL g ft fa vs ds (wipeD ρ vs)) (kComp2 ρ vs) else stuck := rfl
@[simp] theorem mComp_ap (vs : List Nat) (g : EvG) : mComp fs vs g ft fa ρ = bnd (fs ρ) (kComp vs g ft fa) := rfl
-- calls
def kCall {γ : Type} (n : Nat) (m : List D → Res γ) (p : List D × DEnv) : Res (γ × DEnv) := if p.1.length = n then bnd (m p.1) (kRet p.2) else stuck
@[simp] theorem kCall_ap {γ : Type} (m : List D → Res γ) : kCall n m (ds, ρ) = if ds.length = n then bnd (m ds) (kRet ρ) else stuck := rfl
@[simp] theorem mCall_ap (m : List D → Res D) : mCall n m fs ρ = bnd (fs ρ) (kCall n m) := rfl
@[simp] theorem mCallL_ap (m : List D → Res (List D)) : mCallL n m fs ρ = bnd (fs ρ) (kCall n m) := rfl
def kCB4 (i : Nat) (b : Bool) (ρ : DEnv) (r : D × List D) : Res (D × DEnv) := .ok (r.1, ρ.set i (some (Sl.own b r.2)))
def kCB3 (n : Nat) (m : List D → List D → Res (D × List D)) (i : Nat) (ds : List D) (ρ : DEnv) (q : Bool × List D) : Res (D × DEnv) := if ds.length + 1 = n then bnd (m q.2 ds) (kCB4 i q.1 ρ) else stuck
def kCB2 (n : Nat) (m : List D → List D → Res (D × List D)) (i : Nat) (p : List D × DEnv) : Res (D × DEnv) := bnd (ownAt2 i p.2) (kCB3 n m i p.1 p.2)
def kCB (n : Nat) (m : List D → List D → Res (D × List D)) (i : Nat) (fs : EvA) (ρ : DEnv) (_ : Bool × List D) : Res (D × DEnv) := bnd (fs ρ) (kCB2 n m i)
variable (mb : List D → List D → Res (D × List D))
@[simp] theorem kCB4_ap : kCB4 i b ρ (d, xs) = .ok (d, ρ.set i (some (Sl.own b xs))) := rfl
@[simp] theorem kCB3_ap : kCB3 n mb i ds ρ (b, xs) = if ds.length + 1 = n then bnd (mb xs ds) (kCB4 i b ρ) else stuck := rfl
@[simp] theorem kCB2_ap : kCB2 n mb i (ds, ρ) = bnd (ownAt2 i ρ) (kCB3 n mb i ds ρ) := rfl
@[simp] theorem kCB_ap (p : Bool × List D) : kCB n mb i fs ρ p = bnd (fs ρ) (kCB2 n mb i) := rfl
@[simp] theorem mCallB_ap : mCallB n mb i fs ρ = bnd (ownAt2 i ρ) (kCB n mb i fs ρ) := rfl
def kPar (is : List Nat) (p : List Sl × DEnv) : Res (Ctl × DEnv) := if is.length = p.1.length ∧ ∀ i ∈ is, i < p.2.length then .ok (.nx, setAll is p.1 p.2) else stuck
@[simp] theorem kPar_ap (is : List Nat) (ss : List Sl) : kPar is (ss, ρ) = if is.length = ss.length ∧ ∀ i ∈ is, i < ρ.length then .ok (.nx, setAll is ss ρ) else stuck := rfl
@[simp] theorem mPar_ap (is : List Nat) (ks : List Ek) : mPar is ks ρ = bnd (mKs ks ρ) (kPar is) := rfl
def kDat (p : D × DEnv) : Res (Sl × DEnv) := .ok (Sl.dat p.1, p.2)
def kOwn (p : List D × DEnv) : Res (Sl × DEnv) := .ok (Sl.own false p.1, p.2)
@[simp] theorem kDat_ap : kDat (d, ρ) = .ok (Sl.dat d, ρ) := rfl
@[simp] theorem kOwn_ap : kOwn (ds, ρ) = .ok (Sl.own false ds, ρ) := rfl
@[simp] theorem mK_d : mK (.d f) ρ = bnd (f ρ) kDat := rfl
@[simp] theorem mK_o : mK (.o fs) ρ = bnd (fs ρ) kOwn := rfl
def kKs2 (s : Sl) (q : List Sl × DEnv) : Res (List Sl × DEnv) := .ok (s :: q.1, q.2)
def kKs (ks : List Ek) (p : Sl × DEnv) : Res (List Sl × DEnv) := bnd (mKs ks p.2) (kKs2 p.1)
@[simp] theorem kKs2_ap (t : Sl) (ts : List Sl) : kKs2 t (ts, ρ) = .ok (t :: ts, ρ) := rfl
@[simp] theorem kKs_ap (ks : List Ek) (t : Sl) : kKs ks (t, ρ) = bnd (mKs ks ρ) (kKs2 t) := rfl
@[simp] theorem mKs_nil : mKs [] ρ = .ok ([], ρ) := rfl
@[simp] theorem mKs_cons (k : Ek) (ks : List Ek) : mKs (k :: ks) ρ = bnd (mK k ρ) (kKs ks) := rfl
end
@[simp] theorem setAll_nil {α : Type} (ss : List α) (ρ : List (Option α)) : setAll [] ss ρ = ρ := by cases ss <;> rfl
@[simp] theorem setAll_cons {α : Type} (i : Nat) (is : List Nat) (s : α) (ss : List α) (ρ : List (Option α)) : setAll (i :: is) (s :: ss) ρ = (setAll is ss ρ).set i (some s) := rfl
@[simp] theorem fnEnd_rt (d : D) (ρ : DEnv) : fnEnd (.rt d, ρ) = .ok d := rfl
@[simp] theorem fnEnd_nx (ρ : DEnv) : fnEnd (.nx, ρ) = .ok .none := rfl
@[simp] theorem fnEndB_rt (d : D) (xs : List D) (ρ : DEnv) : fnEndB (.rt d, some (Sl.own true xs) :: ρ) = .ok (d, xs) := rfl
@[simp] theorem fnEndB_nx (xs : List D) (ρ : DEnv) : fnEndB (.nx, some (Sl.own true xs) :: ρ) = .ok (.none, xs) := rfl
@[simp] theorem wipeD_nil (ρ : DEnv) : wipeD ρ [] = ρ := rfl
@[simp] theorem wipeD_cons (ρ : DEnv) (v : Nat) (vs : List Nat) : wipeD ρ (v :: vs) = (wipeD ρ vs).set v none := rfl
/-! ## numbers -/
@[simp] theorem absD_int (i : Int) : absD [.int i] = .ok (.int (if i < 0 then -i else i)) := rfl
@[simp] theorem intD_int (i : Int) : intD [.int i] = .ok (.int i) := rfl
@[simp] theorem negD_int (i : Int) : negD (.int i) = .ok (.int (-i)) := rfl
@[simp] theorem addD_int (i j : Int) : addD (.int i) (.int j) = .ok (.int (i + j)) := rfl
@[simp] theorem iaddD_int (i j : Int) : iaddD (.int i) (.int j) = .ok (.int (i + j)) := rfl
@[simp] theorem subD_int (i j : Int) : subD (.int i) (.int j) = .ok (.int (i - j)) := rfl
theorem mulD_int {i j : Int} (h : (sm i || sm j) = true) : mulD (.int i) (.int j) = .ok (.int (i * j)) := by
  show (if (sm i || sm j) = true then Except.ok (PyData.int (i * j)) else stuck) = _
  rw [if_pos h]
theorem modD_int {i j : Int} (h : 0 < j) : modD (.int i) (.int j) = .ok (.int (i % j)) := by
  show (if j ≠ 0 then Except.ok (PyData.int (i.fmod j)) else stuck) = _
  rw [if_pos (by omega), Int.fmod_eq_emod_of_nonneg _ (by omega)]
theorem fdivD_int {i j : Int} (h : 0 < j) (h2 : j < 1073741824) : fdivD (.int i) (.int j) = .ok (.int (i / j)) := by
  show (if j ≠ 0 ∧ j.natAbs < 1073741824 then Except.ok (PyData.int (i.fdiv j)) else stuck) = _
  rw [if_pos (by omega), Int.fdiv_eq_ediv_of_nonneg _ (by omega)]
@[simp] theorem near_int (i : Int) (d : D) : near (.int i) d = true := by simp [near, PyData.depth]
@[simp] theorem near_int' (i : Int) (d : D) : near d (.int i) = true := by simp [near, PyData.depth]
@[simp] theorem eqD_int (i j : Int) : eqD (.int i) (.int j) = .ok (i == j) := by simp [eqD, PyData.eqv]
@[simp] theorem neD_int (i j : Int) : neD (.int i) (.int j) = .ok (!(i == j)) := by simp [neD, PyData.eqv]
@[simp] theorem eqD_bool (i j : Bool) : eqD (.bool i) (.bool j) = .ok (i == j) := by simp [eqD, near, PyData.depth, PyData.eqv]
@[simp] theorem neD_bool (i j : Bool) : neD (.bool i) (.bool j) = .ok (!(i == j)) := by simp [neD, near, PyData.depth, PyData.eqv]
@[simp] theorem ltD_int (i j : Int) : ltD (.int i) (.int j) = .ok (decide (i < j)) := rfl
@[simp] theorem leD_int (i j : Int) : leD (.int i) (.int j) = .ok (decide (i ≤ j)) := rfl
@[simp] theorem gtD_int (i j : Int) : gtD (.int i) (.int j) = .ok (decide (j < i)) := rfl
@[simp] theorem geD_int (i j : Int) : geD (.int i) (.int j) = .ok (decide (j ≤ i)) := rfl
@[simp] theorem max2D_int (i j : Int) : max2D [.int i, .int j] = .ok (.int (max i j)) := by
  show Except.ok (PyData.int (if j > i then j else i)) = _
  congr 2
  split <;> omega
@[simp] theorem min2D_int (i j : Int) : min2D [.int i, .int j] = .ok (.int (min i j)) := by
  show Except.ok (PyData.int (if j < i then j else i)) = _
  congr 2
  split <;> omega
def ixO (o : Option D) : Res D := match o with | some d => .ok d | none => stuck
@[simp] theorem ixO_some (d : D) : ixO (some d) = .ok d := rfl
@[simp] theorem ixD_l (xs : List D) (i : Int) : ixD (.list xs) (.int i) = ixO (atI xs i) := rfl
@[simp] theorem ixD_t (xs : List D) (i : Int) : ixD (.tuple xs) (.int i) = ixO (atI xs i) := rfl
theorem ixN_nat {n j : Nat} (h : j < n) : ixN n (j : Int) = some j := by
  unfold ixN
  rw [if_pos (by omega), if_pos (by omega), Int.toNat_natCast]
theorem ixN_int {n : Nat} {i : Int} (h0 : 0 ≤ i) (h : i < n) : ixN n i = some i.toNat := by
  unfold ixN
  rw [if_pos h0, if_pos (by omega)]
theorem atI_int {α : Type} {xs : List α} {i : Int} (h0 : 0 ≤ i) (h : i < xs.length) : atI xs i = xs[i.toNat]? := by
  unfold atI
  rw [ixN_int h0 h]
  rfl
theorem atI_lit {α : Type} {xs : List α} (i : Nat) (h : i < xs.length) : atI xs (i : Int) = xs[i]? := by
  unfold atI
  rw [ixN_nat h]
  rfl
@[simp] theorem atI_0 {α : Type} (a0 : α) (l : List α) : atI (a0 :: l) 0 = some a0 := (atI_lit (xs := a0 :: l) 0 (by simp)).trans rfl
@[simp] theorem ixN_0 {α : Type} (a0 : α) (l : List α) : ixN (a0 :: l).length 0 = some 0 := ixN_nat (n := (a0 :: l).length) (j := 0) (by simp)
@[simp] theorem atI_1 {α : Type} (a0 a1 : α) (l : List α) : atI (a0 :: a1 :: l) 1 = some a1 := (atI_lit (xs := a0 :: a1 :: l) 1 (by simp)).trans rfl
@[simp] theorem ixN_1 {α : Type} (a0 a1 : α) (l : List α) : ixN (a0 :: a1 :: l).length 1 = some 1 := ixN_nat (n := (a0 :: a1 :: l).length) (j := 1) (by simp)
@[simp] theorem atI_2 {α : Type} (a0 a1 a2 : α) (l : List α) : atI (a0 :: a1 :: a2 :: l) 2 = some a2 := (atI_lit (xs := a0 :: a1 :: a2 :: l) 2 (by simp)).trans rfl
@[simp] theorem ixN_2 {α : Type} (a0 a1 a2 : α) (l : List α) : ixN (a0 :: a1 :: a2 :: l).length 2 = some 2 := ixN_nat (n := (a0 :: a1 :: a2 :: l).length) (j := 2) (by simp)
@[simp] theorem atI_3 {α : Type} (a0 a1 a2 a3 : α) (l : List α) : atI (a0 :: a1 :: a2 :: a3 :: l) 3 = some a3 := (atI_lit (xs := a0 :: a1 :: a2 :: a3 :: l) 3 (by simp)).trans rfl
@[simp] theorem ixN_3 {α : Type} (a0 a1 a2 a3 : α) (l : List α) : ixN (a0 :: a1 :: a2 :: a3 :: l).length 3 = some 3 := ixN_nat (n := (a0 :: a1 :: a2 :: a3 :: l).length) (j := 3) (by simp)
@[simp] theorem atI_4 {α : Type} (a0 a1 a2 a3 a4 : α) (l : List α) : atI (a0 :: a1 :: a2 :: a3 :: a4 :: l) 4 = some a4 := (atI_lit (xs := a0 :: a1 :: a2 :: a3 :: a4 :: l) 4 (by simp)).trans rfl
@[simp] theorem ixN_4 {α : Type} (a0 a1 a2 a3 a4 : α) (l : List α) : ixN (a0 :: a1 :: a2 :: a3 :: a4 :: l).length 4 = some 4 := ixN_nat (n := (a0 :: a1 :: a2 :: a3 :: a4 :: l).length) (j := 4) (by simp)
@[simp] theorem atI_5 {α : Type} (a0 a1 a2 a3 a4 a5 : α) (l : List α) : atI (a0 :: a1 :: a2 :: a3 :: a4 :: a5 :: l) 5 = some a5 := (atI_lit (xs := a0 :: a1 :: a2 :: a3 :: a4 :: a5 :: l) 5 (by simp)).trans rfl
@[simp] theorem ixN_5 {α : Type} (a0 a1 a2 a3 a4 a5 : α) (l : List α) : ixN (a0 :: a1 :: a2 :: a3 :: a4 :: a5 :: l).length 5 = some 5 := ixN_nat (n := (a0 :: a1 :: a2 :: a3 :: a4 :: a5 :: l).length) (j := 5) (by simp)
@[simp] theorem atI_6 {α : Type} (a0 a1 a2 a3 a4 a5 a6 : α) (l : List α) : atI (a0 :: a1 :: a2 :: a3 :: a4 :: a5 :: a6 :: l) 6 = some a6 := (atI_lit (xs := a0 :: a1 :: a2 :: a3 :: a4 :: a5 :: a6 :: l) 6 (by simp)).trans rfl
@[simp] theorem ixN_6 {α : Type} (a0 a1 a2 a3 a4 a5 a6 : α) (l : List α) : ixN (a0 :: a1 :: a2 :: a3 :: a4 :: a5 :: a6 :: l).length 6 = some 6 := ixN_nat (n := (a0 :: a1 :: a2 :: a3 :: a4 :: a5 :: a6 :: l).length) (j := 6) (by simp)
@[simp] theorem atI_7 {α : Type} (a0 a1 a2 a3 a4 a5 a6 a7 : α) (l : List α) : atI (a0 :: a1 :: a2 :: a3 :: a4 :: a5 :: a6 :: a7 :: l) 7 = some a7 := (atI_lit (xs := a0 :: a1 :: a2 :: a3 :: a4 :: a5 :: a6 :: a7 :: l) 7 (by simp)).trans rfl
@[simp] theorem ixN_7 {α : Type} (a0 a1 a2 a3 a4 a5 a6 a7 : α) (l : List α) : ixN (a0 :: a1 :: a2 :: a3 :: a4 :: a5 :: a6 :: a7 :: l).length 7 = some 7 := ixN_nat (n := (a0 :: a1 :: a2 :: a3 :: a4 :: a5 :: a6 :: a7 :: l).length) (j := 7) (by simp)
end L2.DL

namespace L2.DL.Cm
open PySem PySem.Spec PyProof.Rows
noncomputable def b__law_bag : EvA := (mLst (mCons (mC (.int 0)) (mCons (mC (.int 1234567891)) (mCons (mC (.int 0)) (mCons (mOfL (mComp (mSeqI (mSl (mVar 0) mNo (mSo (mC (.int 63))))) [1] (gN 1) (mC (.bool true)) (mDs absD (mCons (mVar 1) mNil)))) mNil)))))
noncomputable def p__law_bag : List D → Res (List D) := fnL 2 b__law_bag
noncomputable def b__law_take : EvS := (mSeq (mIfS (mCmp eqD (mIxOwn 0 (mC (.int 0))) (mC (.int 0))) (mSeq (mSet 2 (mOp ixD (mOp addD (mSl (mIxOwn 0 (mC (.int 3))) (mSo (mIxOwn 0 (mC (.int 2)))) mNo) (mOfL (mLst (mCons (mC (.int 0)) mNil)))) (mC (.int 0)))) (mSeq (mAugS 0 iaddD (mC (.int 2)) (mC (.int 1))) (mSeq (mIfS (mCmp geD (mVar 2) (mOp powD (mC (.int 10)) (mC (.int 18)))) (mStore 0 (mVar 2) (mC (.int 0))) mNx) (mSeq (mSet 3 (mOp addD (mOp addD (mOp mulD (mIxOwn 0 (mC (.int 1))) (mC (.int 48271))) (mOp modD (mDs intD (mCons (mVar 2) mNil)) (mC (.int 2147483647)))) (mOp mulD (mC (.int 7919)) (mIxOwn 0 (mC (.int 2)))))) (mStore 0 (mOp modD (mDs intD (mCons (mVar 3) mNil)) (mC (.int 2147483647))) (mC (.int 1))))))) mNx) (mSeq (mIfS (mCmp gtD (mIxOwn 0 (mC (.int 0))) (mC (.int 0))) (mSeq (mSet 4 (mOp modD (mDs intD (mCons (mIxOwn 0 (mC (.int 0))) mNil)) (mVar 1))) (mSeq (mStore 0 (mOp fdivD (mDs intD (mCons (mIxOwn 0 (mC (.int 0))) mNil)) (mVar 1)) (mC (.int 0))) (mRet (mVar 4)))) mNx) (mSeq (mSet 5 (mOp modD (mDs intD (mCons (mOp mulD (mOp addD (mIxOwn 0 (mC (.int 1))) (mC (.int 1))) (mC (.int 39373))) mNil)) (mC (.int 1000000007)))) (mSeq (mSet 6 (mOp modD (mDs intD (mCons (mOp mulD (mOp modD (mDs intD (mCons (mOp mulD (mVar 5) (mVar 5)) mNil)) (mC (.int 998244353))) (mC (.int 30011))) mNil)) (mC (.int 998244353)))) (mRet (mOp modD (mDs intD (mCons (mOp fdivD (mVar 6) (mC (.int 7))) mNil)) (mVar 1)))))))
noncomputable def p__law_take : List D → List D → Res (D × List D) := fnB 7 b__law_take
noncomputable def b__law_mixed_L0 : EvS := (mApp 3 (mPopAt 2 (mCallB 2 p__law_take 0 (mCons (mV lenS (mOwn 2)) mNil))))
noncomputable def c__law_mixed_L0 : EvF := (mCmpO neD 2 (mOfL (mLst mNil)))
noncomputable def b__law_mixed : EvS := (mSeq (mPar [2, 3] [(.o (mVL lstS (mView (mVar 1)))), (.o (mLst mNil))]) (mSeq (mWhile c__law_mixed_L0 b__law_mixed_L0) (mFrz 3 (mRet (mVar 3)))))
noncomputable def p__law_mixed : List D → List D → Res (D × List D) := fnB 4 b__law_mixed
noncomputable def b__law_names : EvS := (mRet (mSl (mCallB 2 p__law_mixed 0 (mCons (mOfL (mLst (mCons (mC (.str ("york" : Str))) (mCons (mC (.str ("hull" : Str))) (mCons (mC (.str ("ripon" : Str))) (mCons (mC (.str ("leeds" : Str))) (mCons (mC (.str ("x" : Str))) (mCons (mC (.str ("zz" : Str))) (mCons (mC (.str ("abcdefgh" : Str))) (mCons (mC (.str ("q" : Str))) (mCons (mC (.str ("dale" : Str))) (mCons (mC (.str ("wick" : Str))) mNil)))))))))))) mNil)) mNo (mSo (mVar 1))))
noncomputable def p__law_names : List D → List D → Res (D × List D) := fnB 2 b__law_names
noncomputable def b__law_stands : EvS := (mRet (mV tupS (mView (mOfL (mVL sortS (mView (mSl (mCallB 2 p__law_mixed 0 (mCons (mOfL (mLst (mCons (mC (.int 0)) (mCons (mC (.int 1)) (mCons (mC (.int 2)) (mCons (mC (.int 3)) mNil)))))) mNil)) mNo (mSo (mOp addD (mC (.int 1)) (mCallB 2 p__law_take 0 (mCons (mVar 1) mNil)))))))))))
noncomputable def p__law_stands : List D → List D → Res (D × List D) := fnB 2 b__law_stands
noncomputable def b__law_chart_L0 : EvS := (mSeq (mPar [8, 9] [(.d (mCallB 2 p__law_take 0 (mCons (mVar 4) mNil))), (.d (mCallB 2 p__law_take 0 (mCons (mVar 4) mNil)))]) (mSeq (mSet 10 (mOp addD (mC (.int 1)) (mCallB 2 p__law_take 0 (mCons (mC (.int 6)) mNil)))) (mApp 5 (mTup (mCons (mVar 7) (mCons (mVar 8) (mCons (mVar 9) (mCons (mVar 10) (mCons (mOp addD (mC (.int 1)) (mCallB 2 p__law_take 0 (mCons (mC (.int 4)) mNil))) (mCons (mCallB 2 p__law_stands 0 (mCons (mVar 2) mNil)) mNil))))))))))
noncomputable def b__law_chart_L1 : EvS := (mSeq (mPar [12, 13] [(.d (mOp subD (mCallB 2 p__law_take 0 (mCons (mVar 4) mNil)) (mC (.int 2)))), (.d (mOp subD (mCallB 2 p__law_take 0 (mCons (mVar 4) mNil)) (mC (.int 2))))]) (mSeq (mSet 14 (mOp addD (mOp addD (mVar 12) (mC (.int 1))) (mCallB 2 p__law_take 0 (mCons (mC (.int 4)) mNil)))) (mApp 6 (mTup (mCons (mVar 12) (mCons (mVar 13) (mCons (mVar 14) (mCons (mOp addD (mOp addD (mVar 13) (mC (.int 1))) (mCallB 2 p__law_take 0 (mCons (mC (.int 4)) mNil))) mNil))))))))
noncomputable def b__law_chart : EvS := (mSeq (mPar [5, 6] [(.o (mLst mNil)), (.o (mLst mNil))]) (mSeq (mFor (mSeqI (mCallB 2 p__law_names 0 (mCons (mOp addD (mC (.int 1)) (mCallB 2 p__law_take 0 (mCons (mVar 1) mNil))) mNil))) (gN 7) b__law_chart_L0) (mSeq (mFor (mRng1 (mCallB 2 p__law_take 0 (mCons (mOp addD (mVar 3) (mC (.int 1))) mNil))) (gN 11) b__law_chart_L1) (mRet (mTup (mCons (mV tupS (mOwn 5)) (mCons (mV tupS (mOwn 6)) mNil)))))))
noncomputable def p__law_chart : List D → List D → Res (D × List D) := fnB 15 b__law_chart
noncomputable def b__law_alike_L0 : EvS := (mSeq (mAsg (mIxOwn 2 (mVar 3)) (gT (gsC (gN 4) (gsC (gN 5) gsN)) 2)) (mSeq (mAug 3 iaddD (mC (.int 1))) (mSeq (mIfS (mOr (mCmp neD (mIsi .bool (mVar 4)) (mIsi .bool (mVar 5))) (mCmp neD (mIsi .str (mVar 4)) (mIsi .str (mVar 5)))) (mRet (mC (.bool false))) mNx) (mSeq (mIfS (mCmp neD (mIsiT [.tuple, .list] (mVar 4)) (mIsiT [.tuple, .list] (mVar 5))) (mRet (mC (.bool false))) mNx) (mIfS (mIsiT [.tuple, .list] (mVar 4)) (mSeq (mIfS (mOr (mCmp neD (mIsi .tuple (mVar 4)) (mIsi .tuple (mVar 5))) (mCmp neD (mV lenS (mView (mVar 4))) (mV lenS (mView (mVar 5))))) (mRet (mC (.bool false))) mNx) (mExt 2 (mZip (mVar 4) (mVar 5)))) (mIfS (mCmp neD (mVar 4) (mVar 5)) (mRet (mC (.bool false))) mNx))))))
noncomputable def c__law_alike_L0 : EvF := (mCmp ltD (mVar 3) (mV lenS (mOwn 2)))
noncomputable def b__law_alike : EvS := (mSeq (mPar [2, 3] [(.o (mLst (mCons (mTup (mCons (mVar 0) (mCons (mVar 1) mNil))) mNil))), (.d (mC (.int 0)))]) (mSeq (mWhile c__law_alike_L0 b__law_alike_L0) (mRet (mC (.bool true)))))
noncomputable def p__law_alike : List D → Res D := fnP 6 b__law_alike
noncomputable def b__law_box : EvS := (mSeq (mAsg (mOp ixD (mOp ixD (mVar 0) (mC (.int 0))) (mVar 1)) (gT (gsC (gN 3) (gsC (gN 4) (gsC (gN 5) (gsC (gN 6) (gsC (gN 7) (gsC (gN 8) gsN)))))) 6)) (mSeq (mSet 9 (mIf (mCmp (inD false) (mVar 2) (mTup (mCons (mC (.int 0)) (mCons (mC (.int 2)) mNil)))) (mVar 4) (mOp subD (mVar 4) (mVar 6)))) (mSeq (mSet 10 (mIf (mCmp (inD false) (mVar 2) (mTup (mCons (mC (.int 0)) (mCons (mC (.int 1)) mNil)))) (mVar 5) (mOp subD (mVar 5) (mVar 7)))) (mRet (mTup (mCons (mVar 9) (mCons (mVar 10) (mCons (mOp addD (mVar 9) (mVar 6)) (mCons (mOp addD (mVar 10) (mVar 7)) mNil)))))))))
noncomputable def p__law_box : List D → Res D := fnP 11 b__law_box
end L2.DL.Cm

namespace L2.DL.Cm
open PySem PySem.Spec PyProof.Rows
/-- what a bag looks like between two calls -/
structure Bg (xs : List D) : Prop where
  ex : ∃ (h st p : Int) (cs : List Int), xs = [.int h, .int st, .int p, .list (cs.map .int)] ∧ 0 ≤ h ∧ 0 ≤ st ∧ st < 2147483647 ∧ 0 ≤ p ∧ cs.length ≤ 63 ∧ ∀ c ∈ cs, 0 ≤ c
theorem sm_of {i : Int} (h0 : 0 ≤ i) (h : i < 18446744073709551616) : sm i = true := by
  unfold sm
  exact decide_eq_true (by omega)
theorem cut_from (xs : List D) (p : Int) (h0 : 0 ≤ p) : cutD xs (some p) none = xs.drop p.toNat := by
  unfold cutD
  have e : HT.sIx xs.length 0 (some p) = min p.toNat xs.length := by
    show (if p < 0 then (p + (xs.length : Int)).toNat else min p.toNat xs.length) = _
    rw [if_neg (by omega)]
  rw [e, show HT.sIx xs.length xs.length none = xs.length from rfl]
  rw [List.take_of_length_le (by rw [List.length_drop]; exact Nat.le_refl _)]
  by_cases h : p.toNat ≤ xs.length
  · rw [Nat.min_eq_left h]
  · rw [Nat.min_eq_right (by omega), List.drop_length, List.drop_of_length_le (by omega)]
theorem cut_to (xs : List D) (p : Int) (h0 : 0 ≤ p) : cutD xs none (some p) = xs.take p.toNat := by
  unfold cutD
  have e : HT.sIx xs.length xs.length (some p) = min p.toNat xs.length := by
    show (if p < 0 then (p + (xs.length : Int)).toNat else min p.toNat xs.length) = _
    rw [if_neg (by omega)]
  rw [e, show HT.sIx xs.length 0 none = 0 from rfl, List.drop_zero, Nat.sub_zero]
  by_cases h : p.toNat ≤ xs.length
  · rw [Nat.min_eq_left h]
  · rw [Nat.min_eq_right (by omega), List.take_length, List.take_of_length_le (by omega)]
theorem first_or {cs : List Int} (p : Nat) (hc : ∀ c ∈ cs, 0 ≤ c) (hl : cs.length ≤ 63) : ∃ (cell : Int) (r : List D), 0 ≤ cell ∧ addD (.list ((cs.map PyData.int).drop p)) (.list [.int 0]) = .ok (.list (.int cell :: r)) := by
  have e : addD (.list ((cs.map PyData.int).drop p)) (.list [.int 0]) = .ok (.list ((cs.map PyData.int).drop p ++ [.int 0])) := by
    show (if ((cs.map PyData.int).drop p).length + [PyData.int 0].length ≤ lim then Except.ok (PyData.list _) else stuck) = _
    rw [if_pos]
    rw [List.length_drop, List.length_map]
    show cs.length - p + 1 ≤ 1000000
    omega
  rw [e, ← List.map_drop]
  cases q : cs.drop p with
  | nil => exact ⟨0, [], by omega, rfl⟩
  | cons c r =>
    refine ⟨c, r.map PyData.int ++ [.int 0], hc c ?_, rfl⟩
    exact List.mem_of_mem_drop (by rw [q]; exact List.mem_cons_self)
/-- the first half of _law_take: the next cell, where the number is used up -/
theorem take_go {xs : List D} {many : Int} (B : Bg xs) (h0 : 0 < many) (h1 : many < 1000000000) : ∃ v xs', p__law_take xs [.int many] = .ok (.int v, xs') ∧ Bg xs' ∧ 0 ≤ v ∧ v < many := by
  obtain ⟨h, st, p, cs, rfl, hh, hs, hs1, hp, hl, hc⟩ := B.ex
  obtain ⟨cell, r, hcell, ecell⟩ := first_or p.toNat hc hl
  have e10 : powD (.int 10) (.int 18) = .ok (.int 1000000000000000000) := by rfl
  have m1 : ∀ i : Int, mulD (.int i) (.int 48271) = .ok (.int (i * 48271)) := fun i => mulD_int (by simp [sm])
  have m2 : ∀ i : Int, mulD (.int i) (.int 39373) = .ok (.int (i * 39373)) := fun i => mulD_int (by simp [sm])
  have m3 : ∀ i : Int, mulD (.int i) (.int 30011) = .ok (.int (i * 30011)) := fun i => mulD_int (by simp [sm])
  have m4 : ∀ i : Int, mulD (.int 7919) (.int i) = .ok (.int (7919 * i)) := fun i => mulD_int (by simp [sm])
  have m5 : ∀ i : Int, mulD (.int (i % 1000000007)) (.int (i % 1000000007)) = .ok (.int (i % 1000000007 * (i % 1000000007))) := fun i => mulD_int (by rw [sm_of (by omega) (by omega)]; rfl)
  have d1 : ∀ i : Int, modD (.int i) (.int many) = .ok (.int (i % many)) := fun i => modD_int h0
  have d2 : ∀ i : Int, fdivD (.int i) (.int many) = .ok (.int (i / many)) := fun i => fdivD_int h0 (by omega)
  have d3 : ∀ i : Int, fdivD (.int i) (.int 7) = .ok (.int (i / 7)) := fun i => fdivD_int (by omega) (by omega)
  have d4 : ∀ i : Int, modD (.int i) (.int 2147483647) = .ok (.int (i % 2147483647)) := fun i => modD_int (by omega)
  have d5 : ∀ i : Int, modD (.int i) (.int 1000000007) = .ok (.int (i % 1000000007)) := fun i => modD_int (by omega)
  have d6 : ∀ i : Int, modD (.int i) (.int 998244353) = .ok (.int (i % 998244353)) := fun i => modD_int (by omega)
  have r1 : ∀ i : Int, 0 ≤ i % many := fun i => Int.emod_nonneg _ (by omega)
  have r2 : ∀ i : Int, i % many < many := fun i => Int.emod_lt_of_pos _ h0
  have r3 : ∀ i : Int, 0 ≤ i → 0 ≤ i / many := fun i hi => Int.ediv_nonneg hi (by omega)
  unfold p__law_take fnB b__law_take
  by_cases hz : h = 0
  · subst hz
    by_cases hb : 1000000000000000000 ≤ cell
    · have hpos : 0 < cell := by omega
      simp [fnStart, cut_from _ _ hp, ecell, ixN, e10, m1, m4, d1, d2, d4, hb, hpos]
      exact ⟨_, _, ⟨rfl, rfl⟩, ⟨_, _, _, cs, rfl, r3 _ (by omega), by omega, by omega, by omega, hl, hc⟩, r1 _, r2 _⟩
    · simp [fnStart, cut_from _ _ hp, ecell, ixN, e10, m1, m2, m3, m4, m5, d1, d2, d3, d4, d5, d6, hb]
      exact ⟨_, _, ⟨rfl, rfl⟩, ⟨_, _, _, cs, rfl, by omega, by omega, by omega, by omega, hl, hc⟩, r1 _, r2 _⟩
  · have hpos : 0 < h := by omega
    simp [fnStart, hz, hpos, d1, d2, ixN]
    exact ⟨_, _, ⟨rfl, rfl⟩, ⟨_, _, _, cs, rfl, r3 _ hh, hs, hs1, hp, hl, hc⟩, r1 _, r2 _⟩
end L2.DL.Cm

namespace L2.DL
open PySem PySem.Spec PyProof.Rows
theorem compL_gen {g : EvG} {tt e : EvF} {vs : List Nat} {ρ : DEnv} {π : D → Bool} {φ : D → D} : ∀ {ds : List D}, (∀ d ∈ ds, ∃ ρ1 ρ2, g d ρ = .ok ρ1 ∧ tt ρ1 = .ok (.bool (π d), ρ2) ∧ (π d = false → wipeD ρ2 vs = ρ) ∧ (π d = true → ∃ ρ3, e ρ2 = .ok (φ d, ρ3) ∧ wipeD ρ3 vs = ρ)) →
    compL g tt e vs ds ρ = .ok ((ds.filter π).map φ, ρ)
  | [], _ => rfl
  | d :: ds, h => by
    obtain ⟨ρ1, ρ2, h1, h2, h3, h4⟩ := h d List.mem_cons_self
    have ih := compL_gen (ds := ds) fun d hd => h d (List.mem_cons_of_mem _ hd)
    show bnd (g d ρ) _ = _
    rw [h1, bnd_ok, h2, bnd_ok]
    cases q : π d with
    | true =>
      obtain ⟨ρ3, h5, h6⟩ := h4 q
      dsimp only
      rw [h5, bnd_ok, h6, ih, bnd_ok, List.filter_cons_of_pos q]
      rfl
    | false =>
      dsimp only
      rw [h3 q, ih, List.filter_cons_of_neg (by rw [q]; exact Bool.false_ne_true)]
theorem compL_map {g : EvG} {tt e : EvF} {vs : List Nat} {ρ : DEnv} {φ : D → D} {ds : List D} (h : ∀ d ∈ ds, ∃ ρ1 ρ2 ρ3, g d ρ = .ok ρ1 ∧ tt ρ1 = .ok (.bool true, ρ2) ∧ e ρ2 = .ok (φ d, ρ3) ∧ wipeD ρ3 vs = ρ) :
    compL g tt e vs ds ρ = .ok (ds.map φ, ρ) := by
  have := compL_gen (g := g) (tt := tt) (e := e) (vs := vs) (ρ := ρ) (π := fun _ => true) (φ := φ) (ds := ds) fun d hd => by
    obtain ⟨ρ1, ρ2, ρ3, h1, h2, h3, h4⟩ := h d hd
    exact ⟨ρ1, ρ2, h1, h2, (fun z => by cases z), fun _ => ⟨ρ3, h3, h4⟩⟩
  rw [this, List.filter_eq_self.mpr (fun _ _ => rfl)]
theorem forL_inv {g : EvG} {b : EvS} (P : List D → DEnv → Prop) : ∀ {ds done : List D} {ρ : DEnv}, P done ρ → (∀ done d ρ, P done ρ → d ∈ ds → ∃ ρ1 ρ2, g d ρ = .ok ρ1 ∧ (b ρ1 = .ok (.nx, ρ2) ∨ b ρ1 = .ok (.ct, ρ2)) ∧ P (done ++ [d]) ρ2) →
    ∃ ρ', forL g b ds ρ = .ok (.nx, ρ') ∧ P (done ++ ds) ρ'
  | [], done, ρ, h0, _ => ⟨ρ, rfl, by rw [List.append_nil]; exact h0⟩
  | d :: ds, done, ρ, h0, h => by
    obtain ⟨ρ1, ρ2, h1, h2, h3⟩ := h done d ρ h0 List.mem_cons_self
    obtain ⟨ρ', k1, k2⟩ := forL_inv P (ds := ds) (done := done ++ [d]) h3 fun done d ρ a m => h done d ρ a (List.mem_cons_of_mem _ m)
    refine ⟨ρ', ?_, by rw [List.append_assoc] at k2; exact k2⟩
    rw [forL_cons, h1, bnd_ok, kFL_ap]
    rcases h2 with h2 | h2
    · rw [h2, bnd_ok, kFL2_nx, k1]
    · rw [h2, bnd_ok, kFL2_ct, k1]
theorem forL_all {g : EvG} {b : EvS} (P : List D → DEnv → Prop) {ds : List D} {ρ : DEnv} (h0 : P [] ρ) (h : ∀ done d rest ρ, ds = done ++ d :: rest → P done ρ → ∃ ρ1 ρ2, g d ρ = .ok ρ1 ∧ (b ρ1 = .ok (.nx, ρ2) ∨ b ρ1 = .ok (.ct, ρ2)) ∧ P (done ++ [d]) ρ2) :
    ∃ ρ', forL g b ds ρ = .ok (.nx, ρ') ∧ P ds ρ' := by
  have key : ∀ (rest done : List D) (ρ : DEnv), ds = done ++ rest → P done ρ → ∃ ρ', forL g b rest ρ = .ok (.nx, ρ') ∧ P ds ρ' := by
    intro rest
    induction rest with
    | nil =>
      intro done ρ e p
      rw [List.append_nil] at e
      exact ⟨ρ, rfl, by rw [e]; exact p⟩
    | cons d rest ih =>
      intro done ρ e p
      obtain ⟨ρ1, ρ2, h1, h2, h3⟩ := h done d rest ρ e p
      obtain ⟨ρ', k1, k2⟩ := ih (done ++ [d]) ρ2 (by rw [e, List.append_assoc]; rfl) h3
      refine ⟨ρ', ?_, k2⟩
      rw [forL_cons, h1, bnd_ok, kFL_ap]
      rcases h2 with h2 | h2
      · rw [h2, bnd_ok, kFL2_nx, k1]
      · rw [h2, bnd_ok, kFL2_ct, k1]
  exact key ds [] ρ rfl h0
theorem while_inv {c : EvF} {b : EvS} {Q : DEnv → Prop} (P : Nat → DEnv → Prop) (h : ∀ n ρ, P n ρ → (∃ ρ1, c ρ = .ok (.bool false, ρ1) ∧ Q ρ1) ∨ ∃ ρ1 ρ2 m, m < n ∧ c ρ = .ok (.bool true, ρ1) ∧ b ρ1 = .ok (.nx, ρ2) ∧ P m ρ2) :
    ∀ n ρ, P n ρ → ∃ ρ', mWhile c b ρ = .ok (.nx, ρ') ∧ Q ρ' := by
  have key : ∀ n ρ, P n ρ → ∃ k ρ', whileL c b k ρ = .ok (.nx, ρ') ∧ Q ρ' := by
    intro n
    induction n using Nat.strongRecOn with
    | ind n ih =>
      intro ρ p
      rcases h n ρ p with ⟨ρ1, h1, q⟩ | ⟨ρ1, ρ2, m, hm, h1, h2, p2⟩
      · exact ⟨1, ρ1, by show bnd (c ρ) _ = _; rw [h1]; rfl, q⟩
      · obtain ⟨k, ρ', h3, q⟩ := ih m hm ρ2 p2
        refine ⟨k + 1, ρ', ?_, q⟩
        show bnd (c ρ) _ = _
        rw [h1]
        show bnd (b ρ1) _ = _
        rw [h2]
        exact h3
  intro n ρ p
  obtain ⟨k, ρ', h1, q⟩ := key n ρ p
  exact ⟨ρ', mWhile_eq h1, q⟩
namespace Cm
def absF : D → D
  | .int i => .int (if i < 0 then -i else i)
  | d => d
theorem bag_go {ns : List Int} : ∃ xs, p__law_bag [.list (ns.map .int)] = .ok xs ∧ Bg xs := by
  unfold p__law_bag fnL b__law_bag
  have e := compL_map (g := gN 1) (tt := mC (.bool true)) (e := mDs absD (mCons (mVar 1) mNil)) (vs := [1]) (ρ := [some (Sl.dat (.list (ns.map .int))), none]) (φ := absF) (ds := (ns.take 63).map .int) fun d hd => by
    obtain ⟨n, _, rfl⟩ := List.mem_map.mp hd
    exact ⟨_, _, _, rfl, rfl, by simp; exact ⟨rfl, rfl⟩, rfl⟩
  have e2 : ((ns.take 63).map PyData.int).map absF = ((ns.take 63).map fun i => if i < 0 then -i else i).map PyData.int := by
    rw [List.map_map, List.map_map]
    rfl
  rw [e2] at e
  have hl : (ns.take 63).length ≤ lim := by
    rw [List.length_take]
    show min 63 ns.length ≤ 1000000
    omega
  have hl' : min 63 ns.length ≤ lim := by show min 63 ns.length ≤ 1000000; omega
  simp [fnStart, cut_to, noOwn, restD, ← List.map_take, e, hl']
  refine ⟨0, 1234567891, 0, (ns.take 63).map fun i => if i < 0 then -i else i, (by rw [List.map_map]), by omega, by omega, by omega, by omega, ?_, fun c hc => ?_⟩
  · rw [List.length_map, List.length_take]
    omega
  · obtain ⟨n, _, rfl⟩ := List.mem_map.mp hc
    split <;> omega
theorem perm_erase {α : Type} : ∀ {l : List α} {j : Nat} (h : j < l.length), (l[j] :: l.eraseIdx j).Perm l
  | [], _, h => by cases h
  | a :: l, 0, _ => List.Perm.refl _
  | a :: l, j + 1, h => by
    have h' : j < l.length := by simpa using h
    show (l[j] :: a :: l.eraseIdx j).Perm (a :: l)
    exact (List.Perm.swap _ _ _).trans (List.Perm.cons _ (perm_erase h'))
/-- a bag, mixed things: as many of each, the bag again a bag -/
theorem mixed_go {xs ds : List D} (B : Bg xs) (hl : ds.length ≤ 100000) : ∃ out xs', p__law_mixed xs [.list ds] = .ok (.list out, xs') ∧ Bg xs' ∧ out.Perm ds := by
  unfold p__law_mixed fnB b__law_mixed
  have w := while_inv (c := c__law_mixed_L0) (b := b__law_mixed_L0) (Q := fun ρ => ∃ ys out, ρ = [some (Sl.own true ys), some (Sl.dat (.list ds)), some (Sl.own false []), some (Sl.own false out)] ∧ Bg ys ∧ out.Perm ds)
    (fun n ρ => ∃ ys left out, ρ = [some (Sl.own true ys), some (Sl.dat (.list ds)), some (Sl.own false left), some (Sl.own false out)] ∧ left.length = n ∧ Bg ys ∧ (left ++ out).Perm ds) (fun n ρ ⟨ys, left, out, e, hn, By, pm⟩ => by
      subst e
      have hlen : left.length + out.length = ds.length := by rw [← pm.length_eq, List.length_append]
      cases left with
      | nil =>
        refine .inl ⟨_, ?_, ys, out, rfl, By, by simpa using pm⟩
        unfold c__law_mixed_L0
        simp [neD, near, PyData.depth, PyData.depthAll, PyData.eqv, PyData.eqvAll]
      | cons d left =>
        obtain ⟨v, ys', h1, By', h2, h3⟩ := take_go By (many := (left.length : Int) + 1) (by omega) (by rw [List.length_cons] at hlen; omega)
        obtain ⟨j, rfl⟩ : ∃ j : Nat, v = (j : Int) := ⟨v.toNat, by omega⟩
        have hj : j < (d :: left).length := by rw [List.length_cons]; omega
        have hj2 : j < left.length + 1 := by simpa using hj
        have e3 : ixN (left.length + 1) (j : Int) = some j := ixN_nat hj2
        have e4 : (d :: left)[j]? = some (d :: left)[j] := List.getElem?_eq_getElem hj
        have hout : out.length < lim := by
          show out.length < 1000000
          omega
        refine .inr ⟨[some (Sl.own true ys), some (Sl.dat (.list ds)), some (Sl.own false (d :: left)), some (Sl.own false out)], _, left.length, by rw [← hn, List.length_cons]; omega, ?_, ?_, ys', (d :: left).eraseIdx j, out ++ [(d :: left)[j]], rfl, ?_, By', ?_⟩
        · unfold c__law_mixed_L0
          simp [neD, near, PyData.depth, PyData.depthAll, PyData.eqv, PyData.eqvAll]
        · unfold b__law_mixed_L0
          have k1 : (-1000000 : Int) ≤ (j : Int) ∧ (j : Int) ≤ 1000000 := by omega
          simp [h1, e3, e4, hout, k1]
        · rw [List.length_eraseIdx, if_pos hj, List.length_cons]; omega
        · refine List.Perm.trans ?_ pm
          rw [← List.append_assoc]
          refine (List.perm_append_comm (l₁ := (d :: left).eraseIdx j ++ out) (l₂ := [(d :: left)[j]])).trans ?_
          have := perm_erase hj
          exact (List.Perm.append_right out this)) ds.length [some (Sl.own true xs), some (Sl.dat (.list ds)), some (Sl.own false ds), some (Sl.own false [])] ⟨xs, ds, [], rfl, rfl, B, by rw [List.append_nil]⟩
  obtain ⟨ρ', w1, ys, out, rfl, By, pm⟩ := w
  simp [fnStart, w1]
  exact ⟨out, ys, ⟨rfl, rfl⟩, By, pm⟩
end Cm
end L2.DL

namespace L2.DL
open PySem PySem.Spec PyProof.Rows
mutual
/-- how many nodes data has -/
def sz : D → Nat
  | .list xs => 1 + szL xs
  | .tuple xs => 1 + szL xs
  | _ => 1
def szL : List D → Nat
  | [] => 0
  | d :: ds => sz d + szL ds
end
mutual
def okD : D → Bool
  | .list xs => okL xs
  | .tuple xs => okL xs
  | .dict _ => false
  | _ => true
def okL : List D → Bool
  | [] => true
  | d :: ds => okD d && okL ds
end
theorem sz_pos (d : D) : 1 ≤ sz d := by cases d <;> simp [sz]
theorem szL_len : ∀ ds : List D, ds.length ≤ szL ds
  | [] => Nat.le_refl _
  | d :: ds => by
    have := szL_len ds
    have := sz_pos d
    simp only [szL, List.length_cons]
    omega
theorem szL_app : ∀ ds es : List D, szL (ds ++ es) = szL ds + szL es
  | [], es => by simp [szL]
  | d :: ds, es => by simp only [List.cons_append, szL, szL_app ds es]; omega
theorem okL_app : ∀ ds es : List D, okL (ds ++ es) = (okL ds && okL es)
  | [], es => by simp [okL]
  | d :: ds, es => by simp only [List.cons_append, okL, okL_app ds es, Bool.and_assoc]
theorem okL_get : ∀ {ds : List D} {i : Nat} {d : D}, okL ds = true → ds[i]? = some d → okD d = true
  | d :: ds, 0, e, h, q => by
    simp at q
    subst q
    simp only [okL, Bool.and_eq_true] at h
    exact h.1
  | d :: ds, i + 1, e, h, q => by
    simp only [okL, Bool.and_eq_true] at h
    exact okL_get h.2 (by simpa using q)
  | [], i, e, h, q => by simp at q
def twice (d : D) : D := .tuple [d, d]
theorem zipL_same : ∀ xs : List D, zipL xs xs = xs.map twice
  | [] => rfl
  | x :: xs => by
    have := zipL_same xs
    unfold zipL at this ⊢
    rw [List.zip_cons_cons, List.map_cons, List.map_cons, this]
    rfl
theorem drop_eq {α : Type} {ds : List α} {i : Nat} {d : α} (h : ds[i]? = some d) : ds.drop i = d :: ds.drop (i + 1) := by
  obtain ⟨hl, e⟩ := List.getElem?_eq_some_iff.mp h
  rw [List.drop_eq_getElem_cons hl, e]
theorem neD_self {d : D} (h : okD d = true) (h2 : isT .tuple d = false) (h3 : isT .list d = false) : neD d d = .ok false := by
  cases d with
  | none => simp [neD, near, PyData.depth, PyData.eqv]
  | bool b => simp
  | int i => simp
  | str x => simp [neD, near, PyData.depth, PyData.eqv]
  | list xs => simp [isT] at h3
  | tuple xs => simp [isT] at h2
  | dict kvs => simp [okD] at h
namespace Cm
theorem alike_go {d : D} (hk : okD d = true) (hz : sz d ≤ 900000) : p__law_alike [d, d] = .ok (.bool true) := by
  unfold p__law_alike fnP b__law_alike
  have w := while_inv (c := c__law_alike_L0) (b := b__law_alike_L0) (Q := fun ρ => ∃ ys z x4 x5, ρ = [some (Sl.dat d), some (Sl.dat d), some (Sl.own false ys), some (Sl.dat z), x4, x5])
    (fun n ρ => ∃ (ds : List D) (at' : Nat) (x4 x5 : Option Sl), ρ = [some (Sl.dat d), some (Sl.dat d), some (Sl.own false (ds.map twice)), some (Sl.dat (.int (at' : Int))), x4, x5] ∧ szL (ds.drop at') = n ∧ at' ≤ ds.length ∧ at' + n ≤ 900000 ∧ okL ds = true)
    (fun n ρ ⟨ds, at', x4, x5, e, hn, hat, hb, hok⟩ => by
      subst e
      by_cases hlt : at' < ds.length
      · obtain ⟨dd, hd⟩ : ∃ dd, ds[at']? = some dd := ⟨ds[at'], List.getElem?_eq_getElem hlt⟩
        have hdr := drop_eq hd
        have hszd : sz dd + szL (ds.drop (at' + 1)) = n := by rw [← hn, hdr]; rfl
        have hpos := sz_pos dd
        have hkd := okL_get hok hd
        have hat2 : atI (ds.map twice) (at' : Int) = some (.tuple [dd, dd]) := by
          rw [atI_lit _ (by rw [List.length_map]; exact hlt), List.getElem?_map, hd]
          rfl
        have hlen : ds.length ≤ at' + 1 + szL (ds.drop (at' + 1)) := by
          have := szL_len (ds.drop (at' + 1))
          rw [List.length_drop] at this
          omega
        -- the next state
        have step : ∃ (more : List D), b__law_alike_L0 [some (Sl.dat d), some (Sl.dat d), some (Sl.own false (ds.map twice)), some (Sl.dat (.int (at' : Int))), x4, x5] = .ok (.nx, [some (Sl.dat d), some (Sl.dat d), some (Sl.own false ((ds ++ more).map twice)), some (Sl.dat (.int ((at' + 1 : Nat) : Int))), some (Sl.dat dd), some (Sl.dat dd)]) ∧ szL more + 1 = sz dd ∧ okL more = true := by
          have ec : ((at' + 1 : Nat) : Int) = (at' : Int) + 1 := by omega
          rw [ec]
          unfold b__law_alike_L0
          by_cases ht : (isT .tuple dd || isT .list dd) = true
          · obtain ⟨t, xs, hs, hsz, hokx⟩ : ∃ t xs, seqD dd = .ok (t, xs) ∧ szL xs + 1 = sz dd ∧ okL xs = true := by
              cases dd with
              | list xs => exact ⟨_, xs, rfl, by simp only [sz]; omega, by simpa [okD] using hkd⟩
              | tuple xs => exact ⟨_, xs, rfl, by simp only [sz]; omega, by simpa [okD] using hkd⟩
              | _ => simp [isT] at ht
            refine ⟨xs, ?_, hsz, hokx⟩
            have hl : ds.length + (zipL xs xs).length ≤ lim := by
              rw [zipL_same, List.length_map]
              have := szL_len xs
              show _ ≤ 1000000
              omega
            simp [hat2, ht, hs, hl, zipL_same]
            simp [zipL_same] at hl
            simp [hl]
          · have ht' : (isT .tuple dd || isT .list dd) = false := by simpa using ht
            have h2 : isT .tuple dd = false := by simp at ht'; exact ht'.1
            have h3 : isT .list dd = false := by simp at ht'; exact ht'.2
            refine ⟨[], ?_, ?_, rfl⟩
            · simp [hat2, h2, h3, neD_self hkd h2 h3]
            · cases dd with
              | list xs => simp [isT] at h3
              | tuple xs => simp [isT] at h2
              | _ => simp [sz, szL]
        obtain ⟨more, h1, h2, h3⟩ := step
        refine .inr ⟨_, _, szL ((ds ++ more).drop (at' + 1)), ?_, ?_, h1, ds ++ more, at' + 1, _, _, rfl, rfl, ?_, ?_, ?_⟩
        · rw [List.drop_append_of_le_length (by omega), szL_app]
          omega
        · unfold c__law_alike_L0
          simp [hlt]
        · rw [List.length_append]; omega
        · rw [List.drop_append_of_le_length (by omega), szL_app]
          omega
        · rw [okL_app, hok, h3]; rfl
      · refine .inl ⟨[some (Sl.dat d), some (Sl.dat d), some (Sl.own false (ds.map twice)), some (Sl.dat (.int (at' : Int))), x4, x5], ?_, _, _, _, _, rfl⟩
        unfold c__law_alike_L0
        simp [hlt])
    (sz d) [some (Sl.dat d), some (Sl.dat d), some (Sl.own false ([d].map twice)), some (Sl.dat (.int ((0 : Nat) : Int))), none, none] ⟨[d], 0, none, none, rfl, by simp [szL], by simp, by omega, by simp [okL, hk]⟩
  obtain ⟨ρ', w1, ys, z, x4, x5, rfl⟩ := w
  simp [twice] at w1
  simp [fnStart, w1]
end Cm
end L2.DL

namespace L2.DL
open PySem PySem.Spec PyProof.Rows
theorem perm_unmap {α β : Type} {f : α → β} : ∀ {out m : List β}, out.Perm m → ∀ {l : List α}, m = l.map f → ∃ l' : List α, out = l'.map f ∧ l'.Perm l := by
  intro out m p
  induction p with
  | nil =>
    intro l h
    have := List.map_eq_nil_iff.mp h.symm
    subst this
    exact ⟨[], rfl, List.Perm.refl _⟩
  | cons x p ih =>
    intro l h
    cases l with
    | nil => cases h
    | cons a l =>
      rw [List.map_cons] at h
      injection h with h1 h2
      obtain ⟨l', e, q⟩ := ih h2
      exact ⟨a :: l', by rw [List.map_cons, ← h1, ← e], List.Perm.cons _ q⟩
  | swap x y l0 =>
    intro l h
    cases l with
    | nil => cases h
    | cons a l =>
      cases l with
      | nil => simp at h
      | cons b l =>
        simp only [List.map_cons] at h
        injection h with h1 h2
        injection h2 with h2 h3
        exact ⟨b :: a :: l, by rw [List.map_cons, List.map_cons, ← h1, ← h2, ← h3], List.Perm.swap _ _ _⟩
  | trans p1 p2 ih1 ih2 =>
    intro l h
    obtain ⟨l2, e2, q2⟩ := ih2 h
    obtain ⟨l1, e1, q1⟩ := ih1 e2
    exact ⟨l1, e1, q1.trans q2⟩
theorem sortS_int {ns : List Int} (hl : ns.length ≤ lim) : sortS (false, ns.map .int) = .ok ((ns.mergeSort (fun a b => decide (a ≤ b))).map .int) := by
  unfold sortS
  have h1 : PySem.W.AllAlike (ns.map PyData.int) := PySem.W.AllAlike.of fun b b' => rfl
  have h2 : PySem.W.Sortable (ns.map PyData.int) := PySem.W.Sortable.others fun b => ⟨(by intro e; cases e), (by intro xs e; cases e)⟩
  have h3 : ∀ d ∈ ns.map PyData.int, PyData.depth d ≤ 60 := fun d hd => by
    obtain ⟨n, _, rfl⟩ := List.mem_map.mp hd
    simp [PyData.depth]
  rw [if_pos ⟨rfl, h1, h2, by rw [List.length_map]; exact hl, h3⟩]
  congr 1
  refine (List.map_mergeSort (r := fun a b => decide (a ≤ b)) (s := PySem.W.dataLe false (fun d : D => d)) (f := PyData.int) fun a _ b _ => ?_).symm
  exact (congrFun (congrFun (PySem.W.dataLe_int (fun n : Int => n)) a) b).symm
namespace Cm
def nmL : List Str := ["york", "hull", "ripon", "leeds", "x", "zz", "abcdefgh", "q", "dale", "wick"]
theorem nm_nodup : nmL.Nodup := by decide +kernel
theorem names_go {xs : List D} {many : Int} (B : Bg xs) (h0 : 0 ≤ many) : ∃ (ws : List Str) (xs' : List D), p__law_names xs [.int many] = .ok (.list (ws.map .str), xs') ∧ Bg xs' ∧ ws.Nodup ∧ ws.length = min many.toNat 10 ∧ ∀ w ∈ ws, w ∈ nmL := by
  obtain ⟨out, xs', h1, B', pm⟩ := mixed_go (ds := nmL.map .str) B (by decide)
  obtain ⟨ws, rfl, pw⟩ := perm_unmap pm rfl
  unfold p__law_names fnB b__law_names
  have h1' : p__law_mixed xs [.list [.str ("york" : Str), .str ("hull" : Str), .str ("ripon" : Str), .str ("leeds" : Str), .str ("x" : Str), .str ("zz" : Str), .str ("abcdefgh" : Str), .str ("q" : Str), .str ("dale" : Str), .str ("wick" : Str)]] = .ok (.list (ws.map .str), xs') := h1
  simp [fnStart, h1', cut_to _ _ h0]
  refine ⟨ws.take many.toNat, xs', ⟨(by rw [List.map_take]), rfl⟩, B', ?_, ?_, fun w hw => ?_⟩
  · exact (pw.nodup_iff.mpr nm_nodup).sublist (List.take_sublist _ _)
  · rw [List.length_take, pw.length_eq]; rfl
  · exact pw.mem_iff.mp (List.mem_of_mem_take hw)
/-- the stands of a point -/
structure Sds (most : Int) (ks : List Int) : Prop where
  l0 : 1 ≤ ks.length
  l1 : (ks.length : Int) ≤ most
  up : ks.Pairwise (· < ·)
  mem : ∀ k ∈ ks, 0 ≤ k ∧ k < 4
theorem stands_go {xs : List D} {most : Int} (B : Bg xs) (h0 : 1 ≤ most) (h1 : most ≤ 4) : ∃ (ks : List Int) (xs' : List D), p__law_stands xs [.int most] = .ok (.tuple (ks.map .int), xs') ∧ Bg xs' ∧ Sds most ks := by
  obtain ⟨out, xs1, e1, B1, pm⟩ := mixed_go (ds := ([0, 1, 2, 3] : List Int).map .int) B (by decide)
  obtain ⟨ws, rfl, pw⟩ := perm_unmap pm rfl
  obtain ⟨v, xs2, e2, B2, v0, v1⟩ := take_go B1 (many := most) (by omega) (by omega)
  have e1' : p__law_mixed xs [.list [.int 0, .int 1, .int 2, .int 3]] = .ok (.list (ws.map .int), xs1) := e1
  have hl : ws.length = 4 := by rw [pw.length_eq]; rfl
  have hs : sortS (false, (ws.map PyData.int).take (1 + v).toNat) = .ok (((ws.take (1 + v).toNat).mergeSort (fun a b => decide (a ≤ b))).map .int) := by
    rw [← List.map_take]
    exact sortS_int (by rw [List.length_take]; show _ ≤ 1000000; omega)
  unfold p__law_stands fnB b__law_stands
  simp [fnStart, e1', e2, cut_to _ _ (show 0 ≤ 1 + v by omega), hs]
  refine ⟨(ws.take (1 + v).toNat).mergeSort (fun a b => decide (a ≤ b)), xs2, ⟨rfl, rfl⟩, B2, ?_⟩
  have nd : (ws.take (1 + v).toNat).Nodup := (pw.nodup_iff.mpr (by decide)).sublist (List.take_sublist _ _)
  have pp := List.mergeSort_perm (ws.take (1 + v).toNat) (fun a b => decide (a ≤ b))
  have ln : ((ws.take (1 + v).toNat).mergeSort (fun a b => decide (a ≤ b))).length = min (1 + v).toNat 4 := by rw [pp.length_eq, List.length_take, hl]
  refine ⟨by omega, by omega, ?_, fun k hk => ?_⟩
  · have so := List.pairwise_mergeSort (le := fun a b : Int => decide (a ≤ b)) (fun a b c h1 h2 => by simp at h1 h2 ⊢; omega) (fun a b => by simp; omega) (ws.take (1 + v).toNat)
    have nd' : ((ws.take (1 + v).toNat).mergeSort (fun a b => decide (a ≤ b))).Pairwise (· ≠ ·) := pp.nodup_iff.mpr nd
    exact (so.and nd').imp fun {a b} h => by
      have h1 := h.1
      have h2 := h.2
      simp at h1
      omega
  · have := pw.mem_iff.mp (List.mem_of_mem_take (pp.mem_iff.mp hk))
    simp at this
    omega
/-- a point of a drawn map, a bar -/
structure Pt where
  nm : Str
  x : Int
  y : Int
  w : Int
  h : Int
  ks : List Int
structure Bx where
  l : Int
  b : Int
  r : Int
  t : Int
def ptD (p : Pt) : D := .tuple [.str p.nm, .int p.x, .int p.y, .int p.w, .int p.h, .tuple (p.ks.map .int)]
def bxD (b : Bx) : D := .tuple [.int b.l, .int b.b, .int b.r, .int b.t]
def chartD (ps : List Pt) (bs : List Bx) : D := .tuple [.tuple (ps.map ptD), .tuple (bs.map bxD)]
structure PtOk (most room : Int) (p : Pt) : Prop where
  x0 : 0 ≤ p.x
  x1 : p.x < room
  y0 : 0 ≤ p.y
  y1 : p.y < room
  w0 : 1 ≤ p.w
  w1 : p.w ≤ 6
  h0 : 1 ≤ p.h
  h1 : p.h ≤ 4
  ks : Sds most p.ks
structure BxOk (room : Int) (b : Bx) : Prop where
  l0 : -2 ≤ b.l
  l1 : b.l < room - 2
  b0 : -2 ≤ b.b
  b1 : b.b < room - 2
  r0 : b.l < b.r
  r1 : b.r ≤ b.l + 4
  t0 : b.b < b.t
  t1 : b.t ≤ b.b + 4
structure ChartOk (points most bars room : Int) (ps : List Pt) (bs : List Bx) : Prop where
  n0 : 1 ≤ ps.length
  n1 : (ps.length : Int) ≤ points
  n2 : ps.length ≤ 10
  nd : (ps.map (·.nm)).Nodup
  nms : ∀ p ∈ ps, p.nm ∈ nmL
  pts : ∀ p ∈ ps, PtOk most room p
  m1 : (bs.length : Int) ≤ bars
  bxs : ∀ b ∈ bs, BxOk room b
theorem chart_go {xs : List D} {points most bars room : Int} (B : Bg xs) (hp : 1 ≤ points) (hp2 : points ≤ 1000) (hm : 1 ≤ most) (hm4 : most ≤ 4) (hb : 0 ≤ bars) (hb2 : bars ≤ 1000) (hr : 1 ≤ room) (hr2 : room ≤ 1000000) :
    ∃ ps bs xs', p__law_chart xs [.int points, .int most, .int bars, .int room] = .ok (chartD ps bs, xs') ∧ Bg xs' ∧ ChartOk points most bars room ps bs := by
  obtain ⟨v1, ys1, e1, B1, v10, v11⟩ := take_go B (many := points) (by omega) (by omega)
  obtain ⟨ws, ys2, e2, B2, wnd, wl, wm⟩ := names_go B1 (many := 1 + v1) (by omega)
  -- the points
  have hwl : ws.length ≤ 10 := by rw [wl]; omega
  obtain ⟨ρ1, L0, us, ps, zs, x7, x8, x9, x10, eus, enm, Bz, ok, er⟩ := forL_all (g := gN 7) (b := b__law_chart_L0) (fun done ρ => ∃ (us : List Str) (ps : List Pt) (zs : List D) (x7 x8 x9 x10 : Option Sl), done = us.map .str ∧ ps.map (·.nm) = us ∧ Bg zs ∧ (∀ p ∈ ps, PtOk most room p) ∧
      ρ = [some (Sl.own true zs), some (Sl.dat (.int points)), some (Sl.dat (.int most)), some (Sl.dat (.int bars)), some (Sl.dat (.int room)), some (Sl.own false (ps.map ptD)), some (Sl.own false []), x7, x8, x9, x10, none, none, none, none]) (ds := ws.map .str)
    (ρ := [some (Sl.own true ys2), some (Sl.dat (.int points)), some (Sl.dat (.int most)), some (Sl.dat (.int bars)), some (Sl.dat (.int room)), some (Sl.own false []), some (Sl.own false []), none, none, none, none, none, none, none, none])
    ⟨[], [], ys2, none, none, none, none, rfl, rfl, B2, (fun p h => by cases h), rfl⟩ (fun done d rest ρ eall ⟨us, ps, zs, x7, x8, x9, x10, ed, en, Bz, ok, er⟩ => by
      subst er
      obtain ⟨u, hu, rfl⟩ : ∃ u, u ∈ ws ∧ PyData.str u = d := List.mem_map.mp (by rw [eall]; exact List.mem_append_right _ List.mem_cons_self)
      obtain ⟨a1, zs1, t1, Z1, a10, a11⟩ := take_go Bz (many := room) (by omega) (by omega)
      obtain ⟨a2, zs2, t2, Z2, a20, a21⟩ := take_go Z1 (many := room) (by omega) (by omega)
      obtain ⟨a3, zs3, t3, Z3, a30, a31⟩ := take_go Z2 (many := 6) (by omega) (by omega)
      obtain ⟨a4, zs4, t4, Z4, a40, a41⟩ := take_go Z3 (many := 4) (by omega) (by omega)
      obtain ⟨ks, zs5, t5, Z5, sd⟩ := stands_go Z4 hm hm4
      have hlen : ps.length < lim := by
        have e1 := congrArg List.length eall
        have e2 := congrArg List.length ed
        have e3 := congrArg List.length en
        rw [List.length_map, List.length_append] at e1
        rw [List.length_map] at e2 e3
        show _ < 1000000
        omega
      refine ⟨_, _, rfl, .inl ?_, us ++ [u], ps ++ [⟨u, a1, a2, 1 + a3, 1 + a4, ks⟩], zs5, some (Sl.dat (.str u)), some (Sl.dat (.int a1)), some (Sl.dat (.int a2)), some (Sl.dat (.int (1 + a3))), by rw [ed, List.map_append]; rfl, by rw [List.map_append, en]; rfl, Z5, fun p hp => ?_, rfl⟩
      · unfold b__law_chart_L0
        simp [t1, t2, t3, t4, t5, hlen, ptD]
      · rcases List.mem_append.mp hp with hp | hp
        · exact ok p hp
        · rw [List.mem_singleton.mp hp]
          exact ⟨a10, a11, a20, a21, by show 1 ≤ 1 + a3; omega, by show 1 + a3 ≤ 6; omega, by show 1 ≤ 1 + a4; omega, by show 1 + a4 ≤ 4; omega, sd⟩)
  subst er
  have euw : us = ws := by
    have inj : Function.Injective PyData.str := fun a b h => by injection h
    exact ((List.map_inj_right (fun a b h => inj h)).mp eus).symm
  subst euw
  obtain ⟨v2, zs2, e3, B3, v20, v21⟩ := take_go Bz (many := bars + 1) (by omega) (by omega)
  -- the bars
  obtain ⟨ρ2, L1, bs, ws2, x11, x12, x13, x14, el, B4, okb, er⟩ := forL_all (g := gN 11) (b := b__law_chart_L1) (fun done ρ => ∃ (bs : List Bx) (zs : List D) (x11 x12 x13 x14 : Option Sl), bs.length = done.length ∧ Bg zs ∧ (∀ b ∈ bs, BxOk room b) ∧
      ρ = [some (Sl.own true zs), some (Sl.dat (.int points)), some (Sl.dat (.int most)), some (Sl.dat (.int bars)), some (Sl.dat (.int room)), some (Sl.own false (ps.map ptD)), some (Sl.own false (bs.map bxD)), x7, x8, x9, x10, x11, x12, x13, x14]) (ds := rngD 0 v2.toNat)
    (ρ := [some (Sl.own true zs2), some (Sl.dat (.int points)), some (Sl.dat (.int most)), some (Sl.dat (.int bars)), some (Sl.dat (.int room)), some (Sl.own false (ps.map ptD)), some (Sl.own false []), x7, x8, x9, x10, none, none, none, none])
    ⟨[], zs2, none, none, none, none, rfl, B3, (fun p h => by cases h), rfl⟩ (fun done d rest ρ eall ⟨bs, zs, x11, x12, x13, x14, el, Bz, ok, er⟩ => by
      subst er
      obtain ⟨a1, zs1, t1, Z1, a10, a11⟩ := take_go Bz (many := room) (by omega) (by omega)
      obtain ⟨a2, zs2, t2, Z2, a20, a21⟩ := take_go Z1 (many := room) (by omega) (by omega)
      obtain ⟨a3, zs3, t3, Z3, a30, a31⟩ := take_go Z2 (many := 4) (by omega) (by omega)
      obtain ⟨a4, zs4, t4, Z4, a40, a41⟩ := take_go Z3 (many := 4) (by omega) (by omega)
      have hlen : bs.length < lim := by
        have e1 := congrArg List.length eall
        unfold rngD at e1
        rw [List.length_map, List.length_range, List.length_append] at e1
        show _ < 1000000
        omega
      refine ⟨_, _, rfl, .inl ?_, bs ++ [⟨a1 - 2, a2 - 2, a1 - 2 + 1 + a3, a2 - 2 + 1 + a4⟩], zs4, some (Sl.dat d), some (Sl.dat (.int (a1 - 2))), some (Sl.dat (.int (a2 - 2))), some (Sl.dat (.int (a1 - 2 + 1 + a3))), by rw [List.length_append, List.length_append, el]; rfl, Z4, fun p hp => ?_, rfl⟩
      · unfold b__law_chart_L1
        simp [t1, t2, t3, t4, hlen, bxD]
      · rcases List.mem_append.mp hp with hp | hp
        · exact ok p hp
        · rw [List.mem_singleton.mp hp]
          constructor <;> dsimp only <;> omega)
  subst er
  have hrg : rgOk v2 = true := decide_eq_true (by omega)
  unfold p__law_chart fnB b__law_chart
  have h1000 : True := trivial
  simp [fnStart, e1, e2, L0, e3, rng1, hrg, L1]
  refine ⟨ps, bs, ws2, ⟨rfl, rfl⟩, B4, ?_⟩
  have hpl : ps.length = us.length := by rw [← enm, List.length_map]
  have hbl : bs.length = v2.toNat := by rw [el]; unfold rngD; rw [List.length_map, List.length_range]
  refine ⟨by rw [hpl, wl]; omega, by rw [hpl, wl]; omega, by omega, by rw [enm]; exact wnd, fun p hp => wm _ (by rw [← enm]; exact List.mem_map.mpr ⟨p, hp, rfl⟩), ok, by omega, okb⟩
end Cm
end L2.DL

namespace L2.DL
open PySem PySem.Spec PyProof.Rows
/-! ## an environment as a function -/
def ev (N : Nat) (x : Nat → Option Sl) : DEnv := (List.range N).map x
def pt (x : Nat → Option Sl) (i : Nat) (v : Option Sl) : Nat → Option Sl := fun j => if j = i then v else x j
@[simp] theorem pt_same (x : Nat → Option Sl) (i : Nat) (v : Option Sl) : pt x i v i = v := if_pos rfl
theorem pt_ne {x : Nat → Option Sl} {i j : Nat} {v : Option Sl} (h : j ≠ i) : pt x i v j = x j := if_neg h
@[simp] theorem pt_pt (x : Nat → Option Sl) (i : Nat) (v w : Option Sl) : pt (pt x i v) i w = pt x i w := by
  funext j
  unfold pt
  split <;> rfl
@[simp] theorem ev_len (N : Nat) (x : Nat → Option Sl) : (ev N x).length = N := by unfold ev; rw [List.length_map, List.length_range]
theorem ev_get {N i : Nat} {x : Nat → Option Sl} (h : i < N) : (ev N x)[i]? = some (x i) := by
  unfold ev
  rw [List.getElem?_map, List.getElem?_range h]
  rfl
@[simp] theorem ev_at {N i : Nat} {x : Nat → Option Sl} (h : i < (ev N x).length) : (ev N x)[i]'h = x i := by
  have q := ev_get (x := x) (show i < N by simpa using h)
  rw [List.getElem?_eq_getElem h] at q
  exact Option.some.inj q
@[simp] theorem ev_set (N i : Nat) (x : Nat → Option Sl) (v : Option Sl) : (ev N x).set i v = ev N (pt x i v) := by
  refine List.ext_getElem? fun j => ?_
  by_cases hj : j < N
  · rw [ev_get hj]
    by_cases e : i = j
    · subst e
      rw [List.getElem?_set_self (by rw [ev_len]; exact hj), pt_same]
    · rw [List.getElem?_set_ne e, ev_get hj, pt_ne (fun z => e z.symm)]
  · rw [List.getElem?_eq_none (by rw [List.length_set, ev_len]; omega), List.getElem?_eq_none (by rw [ev_len]; omega)]
theorem fnStart_ev {N : Nat} {ds : List D} (h : ds.length ≤ N) : fnStart N ds = ev N (fun i => (ds[i]?).map Sl.dat) := by
  refine List.ext_getElem? fun j => ?_
  unfold fnStart
  by_cases hj : j < ds.length
  · rw [ev_get (by omega), List.getElem?_append_left (by rw [List.length_map]; exact hj), List.getElem?_map, List.getElem?_eq_getElem hj]
    rfl
  · by_cases hN : j < N
    · rw [ev_get hN, List.getElem?_append_right (by rw [List.length_map]; omega), List.length_map, List.getElem?_replicate, if_pos (by omega), List.getElem?_eq_none (by omega)]
      rfl
    · rw [List.getElem?_eq_none (by rw [List.length_append, List.length_map, List.length_replicate]; omega), List.getElem?_eq_none (by rw [ev_len]; omega)]
def stB (xs : List D) (ds : List D) : Nat → Option Sl
  | 0 => some (Sl.own true xs)
  | i + 1 => (ds[i]?).map Sl.dat
theorem fnStartB_ev {N : Nat} {xs ds : List D} (h : ds.length ≤ N) : some (Sl.own true xs) :: fnStart N ds = ev (N + 1) (stB xs ds) := by
  rw [fnStart_ev h]
  refine List.ext_getElem? fun j => ?_
  cases j with
  | zero => rw [ev_get (by omega)]; rfl
  | succ j =>
    rw [List.getElem?_cons_succ]
    by_cases hN : j < N
    · rw [ev_get hN, ev_get (by omega)]
      rfl
    · rw [List.getElem?_eq_none (by rw [ev_len]; omega), List.getElem?_eq_none (by rw [ev_len]; omega)]
def nO : Option Sl → Bool
  | some (Sl.own _ _) => false
  | _ => true
@[simp] theorem nO_none : nO none = true := rfl
@[simp] theorem nO_dat (d : D) : nO (some (Sl.dat d)) = true := rfl
theorem noOwn_cons {N v : Nat} {x : Nat → Option Sl} {vs : List Nat} (h : v < N) : noOwn (ev N x) (v :: vs) = (nO (x v) && noOwn (ev N x) vs) := by
  show ((match (ev N x)[v]? with | some (some (Sl.own _ _)) => false | _ => true) && _) = _
  rw [ev_get h]
  congr 1
  cases x v with
  | none => rfl
  | some s => cases s <;> rfl
@[simp] theorem noOwn_nil (ρ : DEnv) : noOwn ρ [] = true := rfl
@[simp] theorem restD_nil (ρ ρ' : DEnv) : restD ρ ρ' [] = ρ := rfl
theorem restD_cons {N v : Nat} {y : Nat → Option Sl} {vs : List Nat} {ρ : DEnv} (h : v < N) : restD ρ (ev N y) (v :: vs) = (restD ρ (ev N y) vs).set v (y v) := by
  show (match (ev N y)[v]? with | some s => (restD ρ (ev N y) vs).set v s | none => restD ρ (ev N y) vs) = _
  rw [ev_get h]
theorem pt_id {x : Nat → Option Sl} {i : Nat} : pt x i (x i) = x := by
  funext j
  unfold pt
  split
  · rename_i h; rw [h]
  · rfl
theorem fnEndB_ev {N : Nat} {x : Nat → Option Sl} {d : D} {xs : List D} (h : x 0 = some (Sl.own true xs)) : fnEndB (.rt d, ev (N + 1) x) = .ok (d, xs) := by
  unfold fnEndB
  dsimp only
  rw [ev_get (by omega), h]
@[simp] theorem pt_back (x : Nat → Option Sl) (i : Nat) (v : Option Sl) : pt (pt x i v) i (x i) = x := by rw [pt_pt, pt_id]
/-! ## smallest and greatest numbers -/
def mn : List Int → Int
  | [] => 0
  | n :: ns => ns.foldl min n
def mx : List Int → Int
  | [] => 0
  | n :: ns => ns.foldl max n
theorem alike_ints (ns : List Int) : PySem.W.AlikeAll (ns.map PyData.int) := by
  refine ⟨fun x hx y hy => ?_, fun x hx => ?_⟩
  · obtain ⟨a, _, rfl⟩ := List.mem_map.mp hx
    obtain ⟨b, _, rfl⟩ := List.mem_map.mp hy
    rfl
  · obtain ⟨a, _, rfl⟩ := List.mem_map.mp hx
    intro e
    cases e
theorem min_int {ns : List Int} (t : Bool) (h : ns ≠ []) : bestS PySem.W.minD (t, ns.map .int) = .ok (.int (mn ns)) := by
  cases ns with
  | nil => exact absurd rfl h
  | cons n ns =>
    unfold bestS
    rw [List.map_cons]
    dsimp only
    have q := alike_ints (n :: ns)
    rw [List.map_cons] at q
    have q2 : PyData.depthAll (PyData.int n :: ns.map PyData.int) ≤ 60 := by
      have := PySem.W.depth_ints (n :: ns)
      rw [List.map_cons] at this
      omega
    rw [if_pos ⟨q, q2⟩, PySem.W.minD_ints]
    rfl
theorem max_int {ns : List Int} (t : Bool) (h : ns ≠ []) : bestS PySem.W.maxD (t, ns.map .int) = .ok (.int (mx ns)) := by
  cases ns with
  | nil => exact absurd rfl h
  | cons n ns =>
    unfold bestS
    rw [List.map_cons]
    dsimp only
    have q := alike_ints (n :: ns)
    rw [List.map_cons] at q
    have q2 : PyData.depthAll (PyData.int n :: ns.map PyData.int) ≤ 60 := by
      have := PySem.W.depth_ints (n :: ns)
      rw [List.map_cons] at this
      omega
    rw [if_pos ⟨q, q2⟩, PySem.W.maxD_ints]
    rfl
end L2.DL

namespace L2.DL
open PySem PySem.Spec PyProof.Rows
/-- a def of the text, as the top has left it -/
structure Def (K : PySem.W.Frag) (x : Str) (st : Stmt) : Prop where
  ex : ∃ (f : Addr) (fd : FuncData), PySem.W.nsIn K mainGlobals x = some (some (.ref f)) ∧ Fun K x x st f fd
theorem Def.mk' {K : PySem.W.Frag} {x : Str} {st : Stmt} {f : Addr} {oc : Value} {od an : Option Addr} {osl : Array (Option Value)} {kV doc pm cdv ct : Value} (a : PySem.W.nsIn K mainGlobals x = some (some (.ref f)))
    (l : K.lookup f = some ⟨oc, od, .func (PySem.W.fnOf x x (defArgs st) (defBody st) (defScope st) .none kV doc pm an cdv ct), osl⟩) (c : PySem.W.codeIn K cdv x = true) (k : PySem.W.keepIn K (.ref f) = true) : Def K x st :=
  ⟨⟨f, _, a, fun_mk l c k⟩⟩
/-- law's promise: a list of at most 63 whole numbers is handed in, True comes out -/
def spLaw (K : PySem.W.Frag) : Sp := fun vs H Q _ => ∃ (a : Addr) (ns : List Int), vs = [.ref a] ∧ SqL K H a (ns.map V.int) ∧ ns.length ≤ 63 ∧ ∀ H', Q (.bl true) H'
theorem rpA_of_ints {K : PySem.W.Frag} {M : Addr → Prop} {H : Hp} : ∀ ns : List Int, RpA K M H (ns.map V.int) (ns.map .int)
  | [] => .nil
  | n :: ns => .cons (.int n) (rpA_of_ints ns)
theorem spLaw_of {K : PySem.W.Frag} (m : List D → Res D) (h : ∀ ns : List Int, m [.list (ns.map .int)] = .ok (.bool true)) : ∀ vs H Q E, spLaw K vs H Q E → spP K 1 m vs H Q E := by
  rintro vs H Q E ⟨a, ns, rfl, hs, hl, q⟩
  exact ⟨rfl, fun _ => False, [.list (ns.map .int)], .bool true, .cons (.lst (fun z => z) hs (rpA_of_ints ns)) .nil, fun _ z => z.elim, h ns, fun v H' _ _ r => by rw [r.bool_inv]; exact q H'⟩
end L2.DL

namespace L2.DL
open PySem PySem.Spec PyProof.Rows
/-! ## list(range(..)), tuple(range(..)) -/
section
variable {X : Cx} {a b e : Expr} {fa fb : EvF} {p pos p2 pos2 : Pos}
theorem rgV_rp {K : PySem.W.Frag} {M : Addr → Prop} {H : Hp} (lo hi : Int) : RpA K M H (rgV lo hi) (rngD lo (hi - lo).toNat) := by
  have key : ∀ l : List Nat, RpA K M H (l.map fun i => V.int (lo + (i : Nat))) (l.map fun (i : Nat) => PyData.int (lo + (i : Int))) := by
    intro l
    induction l with
    | nil => exact .nil
    | cons i l ih => exact .cons (.int _) ih
  exact key _
def kLim (p : List D × DEnv) : Res (List D × DEnv) := if p.1.length ≤ lim then .ok p else stuck
@[simp] theorem kLim_ap (ds : List D) (ρ : DEnv) : kLim (ds, ρ) = if ds.length ≤ lim then .ok (ds, ρ) else stuck := rfl
def mLRg (f : EvA) : EvA := fun ρ => bnd (f ρ) kLim
@[simp] theorem mLRg_ap (f : EvA) (ρ : DEnv) : mLRg f ρ = bnd (f ρ) kLim := rfl
def kTupL (p : List D × DEnv) : Res (D × DEnv) := .ok (.tuple p.1, p.2)
@[simp] theorem kTupL_ap (ds : List D) (ρ : DEnv) : kTupL (ds, ρ) = .ok (.tuple ds, ρ) := rfl
def mTupL (f : EvA) : EvF := fun ρ => bnd (f ρ) kTupL
@[simp] theorem mTupL_ap (f : EvA) (ρ : DEnv) : mTupL f ρ = bnd (f ρ) kTupL := rfl
theorem rg_ok {lo hi : Int} (h1 : rgOk lo = true) (h2 : rgOk hi = true) (h3 : (hi - lo).toNat ≤ lim) : RgOk lo hi := by
  have h1 := of_decide_eq_true h1
  have h2 := of_decide_eq_true h2
  have h3 : (hi - lo).toNat ≤ 1000000 := h3
  refine ⟨?_, ?_, ?_, ?_, ?_⟩
  · have : (2 : Int) ^ 62 = 4611686018427387904 := rfl
    omega
  · have : (2 : Int) ^ 62 = 4611686018427387904 := rfl
    omega
  · have : (2 : Int) ^ 62 = 4611686018427387904 := rfl
    omega
  · have : (2 : Int) ^ 62 = 4611686018427387904 := rfl
    omega
  · have : (2 : Nat) ^ 24 = 16777216 := by decide
    omega
theorem rd_rg1 {K : PySem.W.Frag} {G : Gh} {ρ ρ' : DEnv} {σ : St} {H : Hp} {ds : List D} {Q : Int → Int → Hp → Prop} (R : Rel K G ρ σ H) (hf : mLRg (mRng1 fa) ρ = .ok (ds, ρ')) (hq : ∀ lo hi H', Rel K G ρ' σ H' → ds = rngD lo (hi - lo).toNat → RgOk lo hi → Q lo hi H') : tRg1 (tE K fa) σ H Q := by
  obtain ⟨⟨zs, ρ1⟩, h1, h⟩ := bnd_inv hf
  obtain ⟨hl, e⟩ := ite_ok h
  cases e
  obtain ⟨⟨d, ρ2⟩, h2, h⟩ := bnd_inv h1
  obtain ⟨z, h3, h⟩ := bnd_inv h
  cases h
  refine ⟨G, ρ, d, _, R, h2, fun x H1 R1 r1 => ?_⟩
  cases d with
  | int n =>
    obtain ⟨hn, e⟩ := ite_ok h3
    subst e
    refine ⟨n, r1.int_inv, hq 0 n H1 R1 (by rw [Int.sub_zero]) (rg_ok rfl hn ?_)⟩
    rw [Int.sub_zero]
    unfold rngD at hl
    rw [List.length_map, List.length_range] at hl
    exact hl
  | _ => cases h3
theorem rd_rg2 {K : PySem.W.Frag} {G : Gh} {ρ ρ' : DEnv} {σ : St} {H : Hp} {ds : List D} {Q : Int → Int → Hp → Prop} (R : Rel K G ρ σ H) (hf : mLRg (mRng2 fa fb) ρ = .ok (ds, ρ')) (hq : ∀ lo hi H', Rel K G ρ' σ H' → ds = rngD lo (hi - lo).toNat → RgOk lo hi → Q lo hi H') : tRg2 (tE K fa) (tE K fb) σ H Q := by
  obtain ⟨⟨zs, ρ1⟩, h1, h⟩ := bnd_inv hf
  obtain ⟨hl, e⟩ := ite_ok h
  cases e
  obtain ⟨⟨d, ρ2⟩, h2, h⟩ := bnd_inv h1
  obtain ⟨⟨d2, ρ3⟩, h4, h⟩ := bnd_inv h
  obtain ⟨z, h3, h⟩ := bnd_inv h
  cases h
  refine ⟨G, ρ, d, ρ2, R, h2, fun x H1 R1 r1 => ⟨G, ρ2, d2, _, R1, h4, fun y H2 R2 r2 => ?_⟩⟩
  cases d with
  | int n =>
    cases d2 with
    | int m =>
      obtain ⟨hn, e⟩ := ite_ok h3
      subst e
      rw [Bool.and_eq_true] at hn
      refine ⟨n, m, r1.int_inv, r2.int_inv, hq n m H2 R2 rfl (rg_ok hn.1 hn.2 ?_)⟩
      unfold rngD at hl
      rw [List.length_map, List.length_range] at hl
      exact hl
    | _ => cases h3
  | _ => cases h3
theorem dl_listRg1 (hc : X.calm = true) (hm : X.mg "range" = none) (hm2 : X.mg "list" = none) (ha : PE X a (tE X.K fa)) (hg : Gl X "range" := by rfl) (hg2 : Gl X "list" := by rfl) (na : starEach [a] X.env = (false, eval a X.env) :: starEach [] X.env := by rfl)
    (nb : starEach [.Call (.Name "range" p2) [a] [] pos2] X.env = (false, eval (.Call (.Name "range" p2) [a] [] pos2) X.env) :: starEach [] X.env := by rfl) : PE X (.Call (.Name "list" p) [.Call (.Name "range" p2) [a] [] pos2] [] pos) (tL X.K (mLRg (mRng1 fa))) := by
  refine PE.by (pe_listRg hc hg2 hm2 (prg_1 hg hm ha na) nb) ?_
  rintro σ H Q ⟨G, ρ, ds, ρ', R, hf, hq⟩
  refine rd_rg1 R hf fun lo hi H' R' e ok => ⟨ok, fun q hn kf => ?_⟩
  subst e
  exact R'.newL hn kf (rgV_rp lo hi) hq
theorem dl_listRg2 (hc : X.calm = true) (hm : X.mg "range" = none) (hm2 : X.mg "list" = none) (ha : PE X a (tE X.K fa)) (hb : PE X b (tE X.K fb)) (hg : Gl X "range" := by rfl) (hg2 : Gl X "list" := by rfl) (na : starEach [a, b] X.env = (false, eval a X.env) :: starEach [b] X.env := by rfl) (nb : starEach [b] X.env = (false, eval b X.env) :: starEach [] X.env := by rfl)
    (hp : (backTo pos2 (starEach [b] X.env)).any (·.1) = false := by rfl)
    (nc : starEach [.Call (.Name "range" p2) [a, b] [] pos2] X.env = (false, eval (.Call (.Name "range" p2) [a, b] [] pos2) X.env) :: starEach [] X.env := by rfl) : PE X (.Call (.Name "list" p) [.Call (.Name "range" p2) [a, b] [] pos2] [] pos) (tL X.K (mLRg (mRng2 fa fb))) := by
  refine PE.by (pe_listRg hc hg2 hm2 (prg_2 hg hm ha hb na nb hp) nc) ?_
  rintro σ H Q ⟨G, ρ, ds, ρ', R, hf, hq⟩
  refine rd_rg2 R hf fun lo hi H' R' e ok => ⟨ok, fun q hn kf => ?_⟩
  subst e
  exact R'.newL hn kf (rgV_rp lo hi) hq
theorem de_tupRg1 (hc : X.calm = true) (hm : X.mg "range" = none) (hm2 : X.mg "tuple" = none) (ha : PE X a (tE X.K fa)) (hg : Gl X "range" := by rfl) (hg2 : Gl X "tuple" := by rfl) (na : starEach [a] X.env = (false, eval a X.env) :: starEach [] X.env := by rfl)
    (nb : starEach [.Call (.Name "range" p2) [a] [] pos2] X.env = (false, eval (.Call (.Name "range" p2) [a] [] pos2) X.env) :: starEach [] X.env := by rfl) : PE X (.Call (.Name "tuple" p) [.Call (.Name "range" p2) [a] [] pos2] [] pos) (tE X.K (mTupL (mLRg (mRng1 fa)))) := by
  refine PE.by (pe_tupRg hc hg2 hm2 (prg_1 hg hm ha na) nb) ?_
  rintro σ H Q ⟨G, ρ, d, ρ', R, hf, hq⟩
  obtain ⟨⟨ds, ρ1⟩, hf2, h⟩ := bnd_inv hf
  cases h
  refine rd_rg1 R hf2 fun lo hi H' R' e ok => ⟨ok, fun q hn kf => ?_⟩
  subst e
  exact hq _ _ (R'.same kf (Same.upd hn)) (.tup (nM R'.domM hn) (SqT.of upd_same) (rgV_rp lo hi))
end
/-! ## a, b = x, y where a or b is captured -/
section
variable {K : PySem.W.Frag} {σ : St}
theorem Pend.same {ρ : DEnv} {H H' : Hp} (kf : KF K H') (s : Same H H') : ∀ {vs : List V} {ss : List Sl} {G : Gh}, Pend K ρ σ H G vs ss → Pend K ρ σ H' G vs ss := by
  intro vs
  induction vs with
  | nil =>
    intro ss G h
    cases ss with
    | nil => exact Rel.same h kf s
    | cons t ss => exact h.elim
  | cons v vs ih =>
    intro ss G h
    cases ss with
    | nil => exact h.elim
    | cons t ss =>
      cases t with
      | dat d => exact ih (ss := ss) h
      | own b xs =>
        obtain ⟨a, ws, e1, e2, e3, e4, e5, h⟩ := h
        exact ⟨a, ws, e1, e2, e3, e4, e5, ih h⟩
variable {X : Cx} {pos : Pos}
theorem rdpT {is : List Nat} {ks : List Ek} {E : Ends} {H : Hp} {Q : List V → Hp → Prop} (h : tS K (mPar is ks) E σ H) (k : ∀ vs H', vs.length = is.length → (∀ H'', Same H' H'' → KF K H'' → E.nx (setAll is vs σ) H'') → Q vs H') : tKs K ks σ H Q := by
  obtain ⟨G, ρ, c, ρ', R, hf, hq⟩ := h
  obtain ⟨⟨ss, ρ1⟩, h1, h⟩ := bnd_inv hf
  obtain ⟨⟨hl, hi⟩, e⟩ := ite_ok h
  cases e
  refine rd_par ks R h1 fun vs H' p => k vs H' ?_ fun H'' sm kf => hq _ _ (pend_set is (p.same kf sm) hl hi)
  have pl : ∀ {vs : List V} {ss : List Sl} {G : Gh}, Pend K ρ1 σ H' G vs ss → vs.length = ss.length := by
    intro vs
    induction vs with
    | nil => intro ss G h; cases ss with
      | nil => rfl
      | cons s ss => exact h.elim
    | cons v vs ih =>
      intro ss G h
      cases ss with
      | nil => exact h.elim
      | cons s ss =>
        cases s with
        | dat d => exact congrArg (· + 1) (ih (ss := ss) h)
        | own b xs =>
          obtain ⟨a, ws, rfl, _, _, _, _, h⟩ := h
          exact congrArg (· + 1) (ih (ss := ss) h)
  exact (pl p).trans hl.symm
theorem ds_parT (i j : Nat) {x y : Str} {a b : Expr} {k1 k2 : Ek} {px py pt' : Pos} {kt k2' pt2} (hc : X.calm = true) (hN : X.N.Nodup) (ha : PE X a (tK X.K k1)) (hb : PE X b (tK X.K k2)) (hi : X.N[i]? = some x := by rfl) (hj : X.N[j]? = some y := by rfl) (hij : i ≠ j := by decide)
    (hx : Loc X.env.scope x := by first | exact Or.inl rfl | exact Or.inr rfl) (hy : Loc X.env.scope y := by first | exact Or.inl rfl | exact Or.inr rfl) (hfx : X.fn x = true ∨ X.env.scope.names.lookup x = some .local := by first | exact .inl rfl | exact .inr rfl)
    (hfy : X.fn y = true ∨ X.env.scope.names.lookup y = some .local := by first | exact .inl rfl | exact .inr rfl)
    (hw : swappedStores [.Tuple [.Name x px, .Name y py] kt pt'] (.Tuple [a, b] k2' pt2) X.env = pure none := by rfl)
    (hs : swapsWithSole [.Tuple [.Name x px, .Name y py] kt pt'] (.Tuple [a, b] k2' pt2) pos.line X.env = pure false := by rfl)
    (h1 : (assignEach [.Tuple [.Name x px, .Name y py] kt pt'] X.env).map (·.2) = [assign (.Tuple [.Name x px, .Name y py] kt pt') X.env] := by rfl)
    (g1 : (assignEach [.Name x px, .Name y py] X.env).map (·.2) = assign (.Name x px) X.env :: (assignEach [.Name y py] X.env).map (·.2) := by rfl) (g2 : (assignEach [.Name y py] X.env).map (·.2) = assign (.Name y py) X.env :: (assignEach [] X.env).map (·.2) := by rfl)
    (g3 : (assignEach [.Name x px, .Name y py] X.env).length = 2 := by rfl) (g4 : (assignEach [.Name x px, .Name y py] X.env).findIdx? (·.1) = none := by rfl)
    (e1 : starEach [a, b] X.env = (false, eval a X.env) :: starEach [b] X.env := by rfl) (e2 : starEach [b] X.env = (false, eval b X.env) :: starEach [] X.env := by rfl) :
    PS X (.Assign [.Tuple [.Name x px, .Name y py] kt pt'] (.Tuple [a, b] k2' pt2) pos) (tS X.K (mPar [i, j] [k1, k2])) := by
  refine PS.imp (ps_asg (te := fun σ H Q => tTup (tKs X.K [k1, k2]) σ H fun v H' => KF X.K H' → Q v H') (PE.by (pe_tup (pa_cons ha (pa_cons hb pa_ks0 e2) e1)) fun _ _ _ h => h) (pg_tup hc (pgs_cons (pg_name hN hi hx hfx) (pgs_cons (pg_name hN hj hy hfy) pgs_nil g2) g1) g3 g4) hs hw h1) fun E σ H h => ?_
  refine rdpT h fun vs H' e q => ?_
  match vs, e, q with
  | [v, w], _, q =>
    refine ⟨by show 2 ≤ sizeLine; decide, fun T hT kf => ⟨T, [v, w], rfl, SqT.of upd_same, rfl, v, [w], rfl, w, [], rfl, rfl, ?_⟩⟩
    have := q _ (Same.upd hT) kf
    rw [show setAll [i, j] [v, w] σ = (σ.set i (some v)).set j (some w) from set_comm' hij] at this
    exact this
end
end L2.DL

namespace L2.DL.Cm
open PySem PySem.Spec PyProof.Rows
noncomputable def b__law_meet : EvS := (mSeq (mSet 2 (mOp subD (mDs min2D (mCons (mOp ixD (mVar 0) (mC (.int 2))) (mCons (mOp ixD (mVar 1) (mC (.int 2))) mNil))) (mDs max2D (mCons (mOp ixD (mVar 0) (mC (.int 0))) (mCons (mOp ixD (mVar 1) (mC (.int 0))) mNil))))) (mRet (mAnd (mCmp gtD (mVar 2) (mC (.int 0))) (mCmp gtD (mOp subD (mDs min2D (mCons (mOp ixD (mVar 0) (mC (.int 3))) (mCons (mOp ixD (mVar 1) (mC (.int 3))) mNil))) (mDs max2D (mCons (mOp ixD (mVar 0) (mC (.int 1))) (mCons (mOp ixD (mVar 1) (mC (.int 1))) mNil)))) (mC (.int 0))))))
noncomputable def p__law_meet : List D → Res D := fnP 3 b__law_meet
noncomputable def b__law_covers : EvS := (mRet (mAnd (mChain ltD ltD (mOp ixD (mVar 0) (mC (.int 0))) (mVar 1) (mOp ixD (mVar 0) (mC (.int 2)))) (mChain ltD ltD (mOp ixD (mVar 0) (mC (.int 1))) (mVar 2) (mOp ixD (mVar 0) (mC (.int 3))))))
noncomputable def p__law_covers : List D → Res D := fnP 3 b__law_covers
noncomputable def b__law_is_open : EvS := (mSeq (mSet 3 (mCall 3 p__law_box (mCons (mVar 0) (mCons (mVar 1) (mCons (mVar 2) mNil))))) (mSeq (mIfS (mCmp neD (mOfL (mComp (mSeqI (mOp ixD (mVar 0) (mC (.int 1)))) [4] (gN 4) (mCall 2 p__law_meet (mCons (mVar 3) (mCons (mVar 4) mNil))) (mC (.int 1)))) (mOfL (mLst mNil))) (mRet (mC (.bool false))) mNx) (mRet (mCmp eqD (mOfL (mComp (mEnum (mOp ixD (mVar 0) (mC (.int 0)))) [5, 6] (gT (gsC (gN 5) (gsC (gN 6) gsN)) 2) (mAnd (mCmp neD (mVar 5) (mVar 1)) (mCall 3 p__law_covers (mCons (mVar 3) (mCons (mOp ixD (mVar 6) (mC (.int 1))) (mCons (mOp ixD (mVar 6) (mC (.int 2))) mNil))))) (mC (.int 1)))) (mOfL (mLst mNil))))))
noncomputable def p__law_is_open : List D → Res D := fnP 7 b__law_is_open
noncomputable def b__law_open : EvS := (mRet (mOfL (mComp (mSeqI (mOp ixD (mOp ixD (mOp ixD (mVar 0) (mC (.int 0))) (mVar 1)) (mC (.int 5)))) [2] (gN 2) (mCall 3 p__law_is_open (mCons (mVar 0) (mCons (mVar 1) (mCons (mVar 2) mNil)))) (mVar 2))))
noncomputable def p__law_open : List D → Res D := fnP 3 b__law_open
noncomputable def b_stands_of : EvS := (mRet (mOp ixD (mOp ixD (mOp ixD (mVar 0) (mC (.int 0))) (mVar 1)) (mC (.int 5))))
noncomputable def p_stands_of : List D → Res D := fnP 2 b_stands_of
noncomputable def b_box_at : EvS := (mSeq (mSet 5 (mIf (mCmp (inD false) (mVar 4) (mTup (mCons (mC (.int 0)) (mCons (mC (.int 2)) mNil)))) (mVar 0) (mOp subD (mVar 0) (mVar 2)))) (mSeq (mSet 6 (mIf (mCmp (inD false) (mVar 4) (mTup (mCons (mC (.int 0)) (mCons (mC (.int 1)) mNil)))) (mVar 1) (mOp subD (mVar 1) (mVar 3)))) (mRet (mTup (mCons (mVar 5) (mCons (mVar 6) (mCons (mOp addD (mVar 5) (mVar 2)) (mCons (mOp addD (mVar 6) (mVar 3)) mNil))))))))
noncomputable def p_box_at : List D → Res D := fnP 7 b_box_at
noncomputable def b_box_of : EvS := (mSeq (mAsg (mOp ixD (mOp ixD (mVar 0) (mC (.int 0))) (mVar 1)) (gT (gsC (gN 3) (gsC (gN 4) (gsC (gN 5) (gsC (gN 6) (gsC (gN 7) (gsC (gN 8) gsN)))))) 6)) (mRet (mCall 5 p_box_at (mCons (mVar 4) (mCons (mVar 5) (mCons (mVar 6) (mCons (mVar 7) (mCons (mVar 2) mNil))))))))
noncomputable def p_box_of : List D → Res D := fnP 9 b_box_of
noncomputable def b_do_clash : EvS := (mRet (mAnd (mCmp ltD (mOp ixD (mVar 0) (mC (.int 0))) (mOp ixD (mVar 1) (mC (.int 2)))) (mAnd (mCmp ltD (mOp ixD (mVar 1) (mC (.int 0))) (mOp ixD (mVar 0) (mC (.int 2)))) (mAnd (mCmp ltD (mOp ixD (mVar 0) (mC (.int 1))) (mOp ixD (mVar 1) (mC (.int 3)))) (mCmp ltD (mOp ixD (mVar 1) (mC (.int 1))) (mOp ixD (mVar 0) (mC (.int 3))))))))
noncomputable def p_do_clash : List D → Res D := fnP 2 b_do_clash
noncomputable def b_bars_hit : EvS := (mSeq (mSet 3 (mCall 3 p_box_of (mCons (mVar 0) (mCons (mVar 1) (mCons (mVar 2) mNil))))) (mRet (mV tupS (mView (mOfL (mComp (mEnum (mOp ixD (mVar 0) (mC (.int 1)))) [4, 5] (gT (gsC (gN 4) (gsC (gN 5) gsN)) 2) (mCall 2 p_do_clash (mCons (mVar 3) (mCons (mVar 5) mNil))) (mVar 4)))))))
noncomputable def p_bars_hit : List D → Res D := fnP 6 b_bars_hit
noncomputable def b_covers : EvS := (mRet (mAnd (mChain ltD ltD (mOp ixD (mVar 0) (mC (.int 0))) (mVar 1) (mOp ixD (mVar 0) (mC (.int 2)))) (mChain ltD ltD (mOp ixD (mVar 0) (mC (.int 1))) (mVar 2) (mOp ixD (mVar 0) (mC (.int 3))))))
noncomputable def p_covers : List D → Res D := fnP 3 b_covers
noncomputable def b_spot : EvS := (mRet (mSl (mOp ixD (mOp ixD (mVar 0) (mC (.int 0))) (mVar 1)) (mSo (mC (.int 1))) (mSo (mC (.int 3)))))
noncomputable def p_spot : List D → Res D := fnP 2 b_spot
noncomputable def b_points_hit : EvS := (mSeq (mPar [3, 4] [(.d (mCall 3 p_box_of (mCons (mVar 0) (mCons (mVar 1) (mCons (mVar 2) mNil))))), (.d (mOfL (mComp (mRng1 (mV lenS (mView (mOp ixD (mVar 0) (mC (.int 0)))))) [5] (gN 5) (mCmp neD (mVar 5) (mVar 1)) (mVar 5))))]) (mRet (mV tupS (mView (mOfL (mComp (mSeqI (mVar 4)) [5] (gN 5) (mCall 3 p_covers (mCons (mVar 3) (mCons (mOp ixD (mCall 2 p_spot (mCons (mVar 0) (mCons (mVar 5) mNil))) (mC (.int 0))) (mCons (mOp ixD (mCall 2 p_spot (mCons (mVar 0) (mCons (mVar 5) mNil))) (mC (.int 1))) mNil)))) (mVar 5)))))))
noncomputable def p_points_hit : List D → Res D := fnP 6 b_points_hit
noncomputable def b_is_open : EvS := (mRet (mAnd (mCmp eqD (mCall 3 p_bars_hit (mCons (mVar 0) (mCons (mVar 1) (mCons (mVar 2) mNil)))) (mTup mNil)) (mCmp eqD (mCall 3 p_points_hit (mCons (mVar 0) (mCons (mVar 1) (mCons (mVar 2) mNil)))) (mTup mNil))))
noncomputable def p_is_open : List D → Res D := fnP 3 b_is_open
noncomputable def b_open_stands : EvS := (mRet (mV tupS (mView (mOfL (mComp (mSeqI (mCall 2 p_stands_of (mCons (mVar 0) (mCons (mVar 1) mNil)))) [2] (gN 2) (mCall 3 p_is_open (mCons (mVar 0) (mCons (mVar 1) (mCons (mVar 2) mNil)))) (mVar 2))))))
noncomputable def p_open_stands : List D → Res D := fnP 3 b_open_stands
noncomputable def b_all_open : EvS := (mRet (mV tupS (mView (mOfL (mComp (mRng1 (mV lenS (mView (mOp ixD (mVar 0) (mC (.int 0)))))) [1] (gN 1) (mC (.bool true)) (mCall 2 p_open_stands (mCons (mVar 0) (mCons (mVar 1) mNil))))))))
noncomputable def p_all_open : List D → Res D := fnP 2 b_all_open
noncomputable def b_names_hit_L0 : EvS := (mIfS (mCmp neD (mVar 5) (mVar 1)) (mExt 4 (mComp (mSeqI (mVar 6)) [7] (gN 7) (mCall 2 p_do_clash (mCons (mVar 3) (mCons (mCall 3 p_box_of (mCons (mVar 0) (mCons (mVar 5) (mCons (mVar 7) mNil)))) mNil))) (mTup (mCons (mVar 5) (mCons (mVar 7) mNil))))) mNx)
noncomputable def b_names_hit : EvS := (mSeq (mPar [3, 4] [(.d (mCall 3 p_box_of (mCons (mVar 0) (mCons (mVar 1) (mCons (mVar 2) mNil))))), (.o (mLst mNil))]) (mSeq (mFor (mEnum (mCall 1 p_all_open (mCons (mVar 0) mNil))) (gT (gsC (gN 5) (gsC (gN 6) gsN)) 2) b_names_hit_L0) (mRet (mV tupS (mOwn 4)))))
noncomputable def p_names_hit : List D → Res D := fnP 8 b_names_hit
noncomputable def b__law_pair : EvS := (mRet (mCall 2 p__law_meet (mCons (mCall 3 p__law_box (mCons (mVar 0) (mCons (mVar 1) (mCons (mVar 2) mNil)))) (mCons (mCall 3 p__law_box (mCons (mVar 0) (mCons (mVar 3) (mCons (mVar 4) mNil)))) mNil))))
noncomputable def p__law_pair : List D → Res D := fnP 5 b__law_pair
end L2.DL.Cm

namespace L2.DL
open PySem PySem.Spec PyProof.Rows
def st0 (ds : List D) (i : Nat) : Option Sl := (ds[i]?).map Sl.dat
theorem fnStart_st {N : Nat} {ds : List D} (h : ds.length ≤ N) : fnStart N ds = ev N (st0 ds) := fnStart_ev h
theorem kComp2_one {N a : Nat} {x : Nat → Option Sl} {zs : List D} (h : a < N) : kComp2 (ev N x) [a] (zs, ev N (pt x a none)) = .ok (zs, ev N x) := by
  rw [kComp2_ap, restD_cons h, restD_nil, ev_set, pt_back]
theorem kComp2_two {N a b : Nat} {x : Nat → Option Sl} {zs : List D} (ha : a < N) (hb : b < N) : kComp2 (ev N x) [a, b] (zs, ev N (pt (pt x b none) a none)) = .ok (zs, ev N x) := by
  rw [kComp2_ap, restD_cons ha, restD_cons hb, restD_nil, ev_set, ev_set]
  have e : pt (pt (pt (pt x b none) a none) b (x b)) a (x a) = x := by
    funext j
    unfold pt
    (repeat' split) <;> simp_all
  rw [e]
/-! ## comprehensions over what is told by other things -/
theorem compL_ix {α : Type} {g : EvG} {tt e : EvF} {vs : List Nat} {ρ : DEnv} (f : α → D) (π : α → Bool) (φ : α → D) : ∀ {xs : List α}, (∀ x ∈ xs, ∃ ρ1 ρ2, g (f x) ρ = .ok ρ1 ∧ tt ρ1 = .ok (.bool (π x), ρ2) ∧ (π x = false → wipeD ρ2 vs = ρ) ∧ (π x = true → ∃ ρ3, e ρ2 = .ok (φ x, ρ3) ∧ wipeD ρ3 vs = ρ)) →
    compL g tt e vs (xs.map f) ρ = .ok ((xs.filter π).map φ, ρ)
  | [], _ => rfl
  | x :: xs, h => by
    obtain ⟨ρ1, ρ2, h1, h2, h3, h4⟩ := h x List.mem_cons_self
    have ih := compL_ix f π φ (xs := xs) fun d hd => h d (List.mem_cons_of_mem _ hd)
    show bnd (g (f x) ρ) _ = _
    rw [h1, bnd_ok, h2, bnd_ok]
    cases q : π x with
    | true =>
      obtain ⟨ρ3, h5, h6⟩ := h4 q
      dsimp only
      rw [h5, bnd_ok, h6]
      show bnd (compL g tt e vs (xs.map f) ρ) _ = _
      rw [ih, bnd_ok, List.filter_cons_of_pos q]
      rfl
    | false =>
      dsimp only
      rw [h3 q]
      show compL g tt e vs (xs.map f) ρ = _
      rw [ih, List.filter_cons_of_neg (by rw [q]; exact Bool.false_ne_true)]
/-- one name -/
theorem comp1 {α : Type} {N a : Nat} {tt e : EvF} (ha : a < N) (f : α → D) (π : α → Bool) (φ : α → D) {xs : List α} (y : Nat → Option Sl) (ht : ∀ x ∈ xs, tt (ev N (pt y a (some (Sl.dat (f x))))) = .ok (.bool (π x), ev N (pt y a (some (Sl.dat (f x))))))
    (he : ∀ x ∈ xs, π x = true → e (ev N (pt y a (some (Sl.dat (f x))))) = .ok (φ x, ev N (pt y a (some (Sl.dat (f x)))))) : compL (gN a) tt e [a] (xs.map f) (ev N (pt y a none)) = .ok ((xs.filter π).map φ, ev N (pt y a none)) := by
  refine compL_ix f π φ fun x hx => ⟨ev N (pt y a (some (Sl.dat (f x)))), ev N (pt y a (some (Sl.dat (f x)))), by simp [ha], ht x hx, fun _ => by simp, fun q => ⟨ev N (pt y a (some (Sl.dat (f x)))), he x hx q, by simp⟩⟩
/-- two names of a pair -/
theorem comp2 {α : Type} {N a b : Nat} {tt e : EvF} (ha : a < N) (hb : b < N) (hab : a ≠ b) (f1 f2 : α → D) (π : α → Bool) (φ : α → D) {xs : List α} (y : Nat → Option Sl)
    (ht : ∀ x ∈ xs, tt (ev N (pt (pt y a (some (Sl.dat (f1 x)))) b (some (Sl.dat (f2 x))))) = .ok (.bool (π x), ev N (pt (pt y a (some (Sl.dat (f1 x)))) b (some (Sl.dat (f2 x))))))
    (he : ∀ x ∈ xs, π x = true → e (ev N (pt (pt y a (some (Sl.dat (f1 x)))) b (some (Sl.dat (f2 x))))) = .ok (φ x, ev N (pt (pt y a (some (Sl.dat (f1 x)))) b (some (Sl.dat (f2 x)))))) :
    compL (gT (gsC (gN a) (gsC (gN b) gsN)) 2) tt e [a, b] (xs.map fun x => .tuple [f1 x, f2 x]) (ev N (pt (pt y b none) a none)) = .ok ((xs.filter π).map φ, ev N (pt (pt y b none) a none)) := by
  have e1 : ∀ u v : Option Sl, pt (pt (pt (pt y b none) a none) a u) b v = pt (pt y a u) b v := fun u v => by
    funext j
    unfold pt
    (repeat' split) <;> simp_all
  have e2 : ∀ u v : Option Sl, pt (pt (pt (pt y a u) b v) b none) a none = pt (pt y b none) a none := fun u v => by
    funext j
    unfold pt
    (repeat' split) <;> simp_all
  refine compL_ix _ π φ fun x hx => ⟨ev N (pt (pt y a (some (Sl.dat (f1 x)))) b (some (Sl.dat (f2 x)))), ev N (pt (pt y a (some (Sl.dat (f1 x)))) b (some (Sl.dat (f2 x)))), ?_, ht x hx, fun _ => ?_, fun q => ⟨ev N (pt (pt y a (some (Sl.dat (f1 x)))) b (some (Sl.dat (f2 x)))), he x hx q, ?_⟩⟩
  · simp [ha, hb]
    have := e1 (some (Sl.dat (f1 x))) (some (Sl.dat (f2 x)))
    simp at this
    rw [this]
  · simp only [wipeD_cons, wipeD_nil, ev_set, e2]
  · simp only [wipeD_cons, wipeD_nil, ev_set, e2]
theorem zip_range {α : Type} (d : α) (xs : List α) : xs.zipIdx = (List.range xs.length).map fun j => (xs.getD j d, j) := by
  refine List.ext_getElem? fun j => ?_
  rw [List.getElem?_zipIdx, List.getElem?_map]
  by_cases h : j < xs.length
  · rw [List.getElem?_range h, List.getElem?_eq_getElem h]
    simp [h]
  · rw [List.getElem?_eq_none (by omega), List.getElem?_eq_none (by rw [List.length_range]; omega)]
    rfl
theorem enumL_range {α : Type} (d : α) (f : α → D) (xs : List α) : enumL (xs.map f) = (List.range xs.length).map fun (j : Nat) => .tuple [.int (j : Nat), f (xs.getD j d)] := by
  unfold enumL
  rw [List.zipIdx_map, zip_range d, List.map_map, List.map_map]
  rfl
theorem rngD_0 (n : Nat) : rngD 0 n = (List.range n).map fun (j : Nat) => PyData.int (j : Int) := by
  unfold rngD
  refine List.map_congr_left fun j _ => ?_
  rw [Int.zero_add]
theorem rng1_nat {n : Nat} (h : n ≤ 1000) : rng1 (.int (n : Int)) = .ok (rngD 0 n) := by
  have q : rgOk (n : Int) = true := decide_eq_true (by omega)
  show (if rgOk (n : Int) = true then Except.ok (rngD 0 (n : Int).toNat) else stuck) = _
  rw [q, if_pos rfl, Int.toNat_natCast]
theorem rngD_len (lo : Int) (n : Nat) : (rngD lo n).length = n := by unfold rngD; rw [List.length_map, List.length_range]
theorem neD_nil (xs : List D) : neD (.list xs) (.list []) = .ok (!xs.isEmpty) := by
  cases xs <;> simp [neD, near, PyData.depth, PyData.depthAll, PyData.eqv, PyData.eqvAll]
theorem eqD_nil (xs : List D) : eqD (.list xs) (.list []) = .ok xs.isEmpty := by
  cases xs <;> simp [eqD, near, PyData.depth, PyData.depthAll, PyData.eqv, PyData.eqvAll]
theorem eqD_nilT (xs : List D) : eqD (.tuple xs) (.tuple []) = .ok xs.isEmpty := by
  cases xs <;> simp [eqD, near, PyData.depth, PyData.depthAll, PyData.eqv, PyData.eqvAll]
theorem inD_two (s a b : Int) : inD false (.int s) (.tuple [.int a, .int b]) = .ok (decide (s = a ∨ s = b)) := by
  have e : inD false (.int s) (.tuple [.int a, .int b]) = .ok (a == s || (b == s || false)) := by
    simp [inD, PyData.depth, PyData.depthAll, PyData.eqv]
  rw [e]
  congr 1
  rw [Bool.eq_iff_iff]
  simp only [Bool.or_eq_true, beq_iff_eq, Bool.false_eq_true, or_false, decide_eq_true_eq]
  omega
theorem inD_ints (neg : Bool) (s : Int) (ns : List Int) (t : Bool) : inD neg (.int s) (if t then .tuple (ns.map .int) else .list (ns.map .int)) = .ok (if neg then !decide (s ∈ ns) else decide (s ∈ ns)) := by
  have e1 : (ns.map PyData.int).any (fun y => PyData.eqv y (.int s)) = decide (s ∈ ns) := by
    induction ns with
    | nil => simp
    | cons n ns ih =>
      rw [List.map_cons, List.any_cons, ih]
      by_cases h : n = s
      · subst h
        simp [PyData.eqv]
      · have h' : ¬ s = n := fun e => h e.symm
        simp [PyData.eqv, h, h']
  cases t <;> (simp only [Bool.false_eq_true, if_false, if_true]; unfold inD; dsimp only; rw [if_pos (decide_eq_true (by simp only [PyData.depth]; omega)), e1])
namespace Cm
instance : Inhabited Pt := ⟨⟨"", 0, 0, 0, 0, []⟩⟩
instance : Inhabited Bx := ⟨⟨0, 0, 0, 0⟩⟩
def boxAt (x y w h s : Int) : Bx := ⟨if s = 0 ∨ s = 2 then x else x - w, if s = 0 ∨ s = 1 then y else y - h, (if s = 0 ∨ s = 2 then x else x - w) + w, (if s = 0 ∨ s = 1 then y else y - h) + h⟩
def bx (p : Pt) (s : Int) : Bx := boxAt p.x p.y p.w p.h s
theorem box_at_go (x y w h s : Int) : p_box_at [.int x, .int y, .int w, .int h, .int s] = .ok (bxD (boxAt x y w h s)) := by
  unfold p_box_at fnP b_box_at
  by_cases h1 : s = 0 ∨ s = 2 <;> by_cases h2 : s = 0 ∨ s = 1 <;> simp [fnStart, inD_two, h1, h2, boxAt, bxD]
def pAt (ps : List Pt) (j : Nat) : Pt := ps.getD j default
def bAt (bs : List Bx) (j : Nat) : Bx := bs.getD j default
theorem row_at {ps : List Pt} {i : Nat} (h : i < ps.length) : atI (ps.map ptD) (i : Int) = some (ptD (pAt ps i)) := by
  rw [atI_lit _ (by rw [List.length_map]; exact h), List.getElem?_map, List.getElem?_eq_getElem h]
  unfold pAt
  simp [h]
theorem chart_0 (ps : List Pt) (bs : List Bx) : ixD (chartD ps bs) (.int 0) = .ok (.tuple (ps.map ptD)) := by simp [chartD]
theorem chart_1 (ps : List Pt) (bs : List Bx) : ixD (chartD ps bs) (.int 1) = .ok (.tuple (bs.map bxD)) := by simp [chartD]
theorem row_ix {ps : List Pt} {i : Nat} (h : i < ps.length) : ixD (.tuple (ps.map ptD)) (.int (i : Int)) = .ok (ptD (pAt ps i)) := by rw [ixD_t, row_at h]; rfl
section
variable {ps : List Pt} {bs : List Bx} {i : Nat}
theorem box_of_go (s : Int) (h : i < ps.length) : p_box_of [chartD ps bs, .int i, .int s] = .ok (bxD (bx (pAt ps i) s)) := by
  unfold p_box_of fnP b_box_of
  simp [fnStart, chart_0, row_at h, ptD, box_at_go, bx]
theorem law_box_go (s : Int) (h : i < ps.length) : p__law_box [chartD ps bs, .int i, .int s] = .ok (bxD (bx (pAt ps i) s)) := by
  unfold p__law_box fnP b__law_box
  by_cases h1 : s = 0 ∨ s = 2 <;> by_cases h2 : s = 0 ∨ s = 1 <;> simp [fnStart, chart_0, row_at h, ptD, inD_two, h1, h2, bx, boxAt, bxD]
def clash (a b : Bx) : Prop := a.l < b.r ∧ b.l < a.r ∧ a.b < b.t ∧ b.b < a.t
instance (a b : Bx) : Decidable (clash a b) := by unfold clash; infer_instance
theorem clash_go (a b : Bx) : p_do_clash [bxD a, bxD b] = .ok (.bool (decide (clash a b))) := by
  unfold p_do_clash fnP b_do_clash clash
  by_cases h1 : a.l < b.r <;> by_cases h2 : b.l < a.r <;> by_cases h3 : a.b < b.t <;> by_cases h4 : b.b < a.t <;> simp [fnStart, bxD, h1, h2, h3, h4]
theorem clash_comm (a c : Bx) : clash a c ↔ clash c a := by unfold clash; omega
/-- a box with an inside -/
def Fat (b : Bx) : Prop := b.l < b.r ∧ b.b < b.t
theorem fat_bx {p : Pt} (s : Int) (hw : 1 ≤ p.w) (hh : 1 ≤ p.h) : Fat (bx p s) := by
  unfold Fat bx boxAt
  dsimp only
  omega
theorem meet_go {a b : Bx} (ha : Fat a) (hb : Fat b) : p__law_meet [bxD a, bxD b] = .ok (.bool (decide (clash a b))) := by
  unfold p__law_meet fnP b__law_meet
  have e : clash a b ↔ (max a.l b.l < min a.r b.r ∧ max a.b b.b < min a.t b.t) := by
    unfold Fat at ha hb
    unfold clash
    omega
  by_cases h1 : max a.l b.l < min a.r b.r <;> by_cases h2 : max a.b b.b < min a.t b.t <;> simp [fnStart, bxD, h1, h2, e]
def cov (b : Bx) (x y : Int) : Prop := b.l < x ∧ x < b.r ∧ b.b < y ∧ y < b.t
instance (b : Bx) (x y : Int) : Decidable (cov b x y) := by unfold cov; infer_instance
theorem covers_go (a : Bx) (x y : Int) : p_covers [bxD a, .int x, .int y] = .ok (.bool (decide (cov a x y))) := by
  unfold p_covers fnP b_covers cov
  by_cases h1 : a.l < x <;> by_cases h2 : x < a.r <;> by_cases h3 : a.b < y <;> by_cases h4 : y < a.t <;> simp [fnStart, bxD, h1, h2, h3, h4]
theorem law_covers_go (a : Bx) (x y : Int) : p__law_covers [bxD a, .int x, .int y] = .ok (.bool (decide (cov a x y))) := by
  unfold p__law_covers fnP b__law_covers cov
  by_cases h1 : a.l < x <;> by_cases h2 : x < a.r <;> by_cases h3 : a.b < y <;> by_cases h4 : y < a.t <;> simp [fnStart, bxD, h1, h2, h3, h4]
theorem spot_go (h : i < ps.length) : p_spot [chartD ps bs, .int i] = .ok (.tuple [.int (pAt ps i).x, .int (pAt ps i).y]) := by
  unfold p_spot fnP b_spot
  simp [fnStart, chart_0, row_at h, ptD]
  rfl
theorem stands_of_go (h : i < ps.length) : p_stands_of [chartD ps bs, .int i] = .ok (.tuple ((pAt ps i).ks.map .int)) := by
  unfold p_stands_of fnP b_stands_of
  simp [fnStart, chart_0, row_at h, ptD]
/-- which bars, which other points' spots a box hits -/
def barsHit (bs : List Bx) (b : Bx) : List Nat := (List.range bs.length).filter fun j => decide (clash b (bAt bs j))
def ptsHit (ps : List Pt) (b : Bx) (i : Nat) : List Nat := (List.range ps.length).filter fun j => decide (j ≠ i) && decide (cov b (pAt ps j).x (pAt ps j).y)
def nD (l : List Nat) : List D := l.map fun (j : Nat) => PyData.int (j : Int)
theorem bars_hit_go (s : Int) (h : i < ps.length) (hb : bs.length ≤ 100000) : p_bars_hit [chartD ps bs, .int i, .int s] = .ok (.tuple (nD (barsHit bs (bx (pAt ps i) s)))) := by
  have hb' : bs.length ≤ lim := Nat.le_trans hb (by decide)
  have c : ∀ y : Nat → Option Sl, y 3 = some (Sl.dat (bxD (bx (pAt ps i) s))) → compL (gT (gsC (gN 4) (gsC (gN 5) gsN)) 2) (mCall 2 p_do_clash (mCons (mVar 3) (mCons (mVar 5) mNil))) (mVar 4) [4, 5] (enumL (bs.map bxD)) (ev 6 (pt (pt y 5 none) 4 none)) = .ok (nD (barsHit bs (bx (pAt ps i) s)), ev 6 (pt (pt y 5 none) 4 none)) := fun y y3 => by
    rw [enumL_range default]
    exact comp2 (by omega) (by omega) (by omega) (fun (j : Nat) => .int (j : Nat)) (fun j => bxD (bs.getD j default)) (fun j => decide (clash (bx (pAt ps i) s) (bAt bs j))) (fun (j : Nat) => .int (j : Nat)) y (fun j _ => by simp [ev_get, pt_ne, y3, clash_go]; rfl) (fun j _ _ => by simp [ev_get, pt_ne])
  have cc := c (pt (st0 [chartD ps bs, .int i, .int s]) 3 (some (Sl.dat (bxD (bx (pAt ps i) s))))) (by simp)
  unfold p_bars_hit fnP b_bars_hit
  rw [fnStart_st (by simp)]
  simp [st0, ev_get, pt_ne, box_of_go s h, chart_1, enumL_len, hb', noOwn_cons, restD_cons, cc]
end
end Cm
end L2.DL

namespace L2.DL.Cm
open PySem PySem.Spec PyProof.Rows
/-- a chart of handy size, its boxes with an inside -/
structure CF (ps : List Pt) (bs : List Bx) : Prop where
  n : ps.length ≤ 1000
  m : bs.length ≤ 1000
  k : ∀ i, i < ps.length → (pAt ps i).ks.length ≤ 1000
  w : ∀ i, i < ps.length → 1 ≤ (pAt ps i).w ∧ 1 ≤ (pAt ps i).h
  f : ∀ j, j < bs.length → Fat (bAt bs j)
theorem le_lim {n : Nat} (h : n ≤ 1000) : n ≤ lim := Nat.le_trans h (by decide)
theorem nD_empty (l : List Nat) : (nD l).isEmpty = l.isEmpty := by cases l <;> rfl
theorem nD_len (l : List Nat) : (nD l).length = l.length := by unfold nD; rw [List.length_map]
def isOpen (ps : List Pt) (bs : List Bx) (i : Nat) (s : Int) : Bool := (barsHit bs (bx (pAt ps i) s)).isEmpty && (ptsHit ps (bx (pAt ps i) s) i).isEmpty
def opn (ps : List Pt) (bs : List Bx) (i : Nat) : List Int := (pAt ps i).ks.filter (isOpen ps bs i)
def namesHit (ps : List Pt) (bs : List Bx) (i : Nat) (b : Bx) : List (Nat × Int) := (List.range ps.length).flatMap fun o => if o ≠ i then ((opn ps bs o).filter fun t => decide (clash b (bx (pAt ps o) t))).map fun t => (o, t) else []
def nmD (q : Nat × Int) : D := .tuple [.int (q.1 : Nat), .int q.2]
section
variable {ps : List Pt} {bs : List Bx} {i : Nat}
theorem neD_nat (a b : Nat) : neD (.int (a : Nat)) (.int (b : Nat)) = .ok (decide (a ≠ b)) := by
  rw [neD_int]
  congr 1
  by_cases h : a = b
  · subst h; simp
  · have : ((a : Int) == (b : Int)) = false := by simp; omega
    rw [this]
    simp [h]
theorem points_hit_go (C : CF ps bs) (s : Int) (h : i < ps.length) : p_points_hit [chartD ps bs, .int i, .int s] = .ok (.tuple (nD (ptsHit ps (bx (pAt ps i) s) i))) := by
  have c1 : ∀ y : Nat → Option Sl, y 1 = some (Sl.dat (.int (i : Nat))) → compL (gN 5) (mCmp neD (mVar 5) (mVar 1)) (mVar 5) [5] (rngD 0 ps.length) (ev 6 (pt y 5 none)) = .ok (nD ((List.range ps.length).filter fun j => decide (j ≠ i)), ev 6 (pt y 5 none)) := fun y y1 => by
    rw [rngD_0]
    exact comp1 (by omega) (fun (j : Nat) => .int (j : Nat)) (fun j => decide (j ≠ i)) (fun (j : Nat) => .int (j : Nat)) y (fun j _ => by simp [ev_get, pt_ne, y1]; have := neD_nat j i; simp at this; simp [this]) (fun j _ _ => by simp [ev_get, pt_ne])
  have c2 : ∀ y : Nat → Option Sl, y 0 = some (Sl.dat (chartD ps bs)) → y 3 = some (Sl.dat (bxD (bx (pAt ps i) s))) → compL (gN 5) (mCall 3 p_covers (mCons (mVar 3) (mCons (mOp ixD (mCall 2 p_spot (mCons (mVar 0) (mCons (mVar 5) mNil))) (mC (.int 0))) (mCons (mOp ixD (mCall 2 p_spot (mCons (mVar 0) (mCons (mVar 5) mNil))) (mC (.int 1))) mNil)))) (mVar 5) [5] (nD ((List.range ps.length).filter fun j => decide (j ≠ i))) (ev 6 (pt y 5 none)) = .ok (nD (ptsHit ps (bx (pAt ps i) s) i), ev 6 (pt y 5 none)) := fun y y0 y3 => by
    have e : ptsHit ps (bx (pAt ps i) s) i = ((List.range ps.length).filter fun j => decide (j ≠ i)).filter fun j => decide (cov (bx (pAt ps i) s) (pAt ps j).x (pAt ps j).y) := by
      unfold ptsHit
      rw [List.filter_filter]
      refine List.filter_congr fun j _ => ?_
      rw [Bool.and_comm]
    rw [e]
    refine comp1 (by omega) (fun (j : Nat) => .int (j : Nat)) (fun j => decide (cov (bx (pAt ps i) s) (pAt ps j).x (pAt ps j).y)) (fun (j : Nat) => .int (j : Nat)) y (fun j hj => ?_) (fun j _ _ => by simp [ev_get, pt_ne])
    have hj' : j < ps.length := List.mem_range.mp (List.mem_filter.mp hj).1
    simp [ev_get, pt_ne, y0, y3, spot_go hj', covers_go]
  have l1 : (nD ((List.range ps.length).filter fun j => decide (j ≠ i))).length ≤ lim := by
    rw [nD_len]
    exact Nat.le_trans (List.length_filter_le _ _) (by rw [List.length_range]; exact le_lim C.n)
  have rg := rng1_nat C.n
  have rl : (rngD 0 ps.length).length ≤ lim := by rw [rngD_len]; exact le_lim C.n
  generalize hgen : (List.range ps.length).filter (fun j => decide (j ≠ i)) = oth at c1 c2 l1
  unfold p_points_hit fnP b_points_hit
  rw [fnStart_st (by simp)]
  simp [st0, ev_get, pt_ne, box_of_go s h, chart_0, noOwn_cons, restD_cons, rg, rl, c1, c2, l1]
theorem is_open_go (C : CF ps bs) (s : Int) (h : i < ps.length) : p_is_open [chartD ps bs, .int i, .int s] = .ok (.bool (isOpen ps bs i s)) := by
  have e1 := bars_hit_go (bs := bs) s h (Nat.le_trans C.m (by decide))
  have e2 := points_hit_go C s h
  unfold p_is_open fnP b_is_open isOpen
  cases q : (barsHit bs (bx (pAt ps i) s)).isEmpty <;> simp [fnStart, e1, e2, eqD_nilT, nD_empty, q]
theorem opn_comp (C : CF ps bs) (h : i < ps.length) {N a : Nat} (ha : a < N) (tt : EvF) (y : Nat → Option Sl) (ht : ∀ s, tt (ev N (pt y a (some (Sl.dat (.int s))))) = .ok (.bool (isOpen ps bs i s), ev N (pt y a (some (Sl.dat (.int s)))))) :
    compL (gN a) tt (mVar a) [a] ((pAt ps i).ks.map .int) (ev N (pt y a none)) = .ok ((opn ps bs i).map .int, ev N (pt y a none)) :=
  comp1 ha (fun s => .int s) (isOpen ps bs i) (fun s => .int s) y (fun s _ => ht s) (fun s _ _ => by simp [ev_get, ha])
theorem open_stands_go (C : CF ps bs) (h : i < ps.length) : p_open_stands [chartD ps bs, .int i] = .ok (.tuple ((opn ps bs i).map .int)) := by
  have c := opn_comp (bs := bs) C h (N := 3) (a := 2) (by omega) (mCall 3 p_is_open (mCons (mVar 0) (mCons (mVar 1) (mCons (mVar 2) mNil)))) (st0 [chartD ps bs, .int i]) fun s => by simp [ev_get, pt_ne, st0, is_open_go C s h]
  have hk := le_lim (C.k i h)
  unfold p_open_stands fnP b_open_stands
  rw [fnStart_st (by simp)]
  simp [st0, ev_get, stands_of_go h, hk, noOwn_cons, restD_cons, c]
theorem all_open_go (C : CF ps bs) : p_all_open [chartD ps bs] = .ok (.tuple ((List.range ps.length).map fun j => .tuple ((opn ps bs j).map .int))) := by
  have c : compL (gN 1) (mC (.bool true)) (mCall 2 p_open_stands (mCons (mVar 0) (mCons (mVar 1) mNil))) [1] (rngD 0 ps.length) (ev 2 (pt (st0 [chartD ps bs]) 1 none)) = .ok (((List.range ps.length).filter fun _ => true).map fun j => .tuple ((opn ps bs j).map .int), ev 2 (pt (st0 [chartD ps bs]) 1 none)) := by
    rw [rngD_0]
    exact comp1 (by omega) _ (fun _ => true) _ _ (fun j _ => rfl) fun j hj _ => by simp [ev_get, pt_ne, st0, open_stands_go C (List.mem_range.mp hj)]
  rw [List.filter_eq_self.mpr (fun _ _ => rfl)] at c
  have rl : (rngD 0 ps.length).length ≤ lim := by rw [rngD_len]; exact le_lim C.n
  unfold p_all_open fnP b_all_open
  rw [fnStart_st (by simp)]
  simp [st0, ev_get, chart_0, rng1_nat C.n, rl, noOwn_cons, restD_cons, c]
theorem law_is_open_go (C : CF ps bs) (s : Int) (h : i < ps.length) : p__law_is_open [chartD ps bs, .int i, .int s] = .ok (.bool (isOpen ps bs i s)) := by
  have c1 : ∀ y : Nat → Option Sl, y 3 = some (Sl.dat (bxD (bx (pAt ps i) s))) → compL (gN 4) (mCall 2 p__law_meet (mCons (mVar 3) (mCons (mVar 4) mNil))) (mC (.int 1)) [4] (bs.map bxD) (ev 7 (pt y 4 none)) = .ok (((List.range bs.length).filter fun j => decide (clash (bx (pAt ps i) s) (bAt bs j))).map fun _ => .int 1, ev 7 (pt y 4 none)) := fun y y3 => by
    have e : bs.map bxD = (List.range bs.length).map fun j => bxD (bAt bs j) := by
      refine List.ext_getElem? fun j => ?_
      rw [List.getElem?_map, List.getElem?_map]
      by_cases hj : j < bs.length
      · rw [List.getElem?_range hj, List.getElem?_eq_getElem hj]
        unfold bAt
        simp [hj]
      · rw [List.getElem?_eq_none (by omega), List.getElem?_eq_none (by rw [List.length_range]; omega)]
        rfl
    rw [e]
    refine comp1 (by omega) _ _ (fun _ => .int 1) y (fun j hj => ?_) (fun j _ _ => rfl)
    have hj' := List.mem_range.mp hj
    simp [ev_get, pt_ne, y3, meet_go (fat_bx s (C.w i h).1 (C.w i h).2) (C.f j hj')]
  have c2 : ∀ y : Nat → Option Sl, y 1 = some (Sl.dat (.int (i : Nat))) → y 3 = some (Sl.dat (bxD (bx (pAt ps i) s))) → compL (gT (gsC (gN 5) (gsC (gN 6) gsN)) 2) (mAnd (mCmp neD (mVar 5) (mVar 1)) (mCall 3 p__law_covers (mCons (mVar 3) (mCons (mOp ixD (mVar 6) (mC (.int 1))) (mCons (mOp ixD (mVar 6) (mC (.int 2))) mNil))))) (mC (.int 1)) [5, 6] (enumL (ps.map ptD)) (ev 7 (pt (pt y 6 none) 5 none)) = .ok ((ptsHit ps (bx (pAt ps i) s) i).map fun _ => .int 1, ev 7 (pt (pt y 6 none) 5 none)) := fun y y1 y3 => by
    rw [enumL_range default]
    refine comp2 (by omega) (by omega) (by omega) (fun (j : Nat) => .int (j : Nat)) (fun j => ptD (ps.getD j default)) (fun j => decide (j ≠ i) && decide (cov (bx (pAt ps i) s) (pAt ps j).x (pAt ps j).y)) (fun _ => .int 1) y (fun j _ => ?_) (fun j _ _ => rfl)
    have q := neD_nat j i
    by_cases hji : j = i
    · simp [ev_get, pt_ne, y1, q, hji]
    · simp [ev_get, pt_ne, y1, y3, q, hji, ptD, law_covers_go]
      rfl
  have l1 : (enumL (ps.map ptD)).length ≤ lim := by rw [enumL_len, List.length_map]; exact le_lim C.n
  have c1' : ∀ y : Nat → Option Sl, y 3 = some (Sl.dat (bxD (bx (pAt ps i) s))) → compL (gN 4) (mCall 2 p__law_meet (mCons (mVar 3) (mCons (mVar 4) mNil))) (mC (.int 1)) [4] (bs.map bxD) (ev 7 (pt y 4 none)) = .ok ((barsHit bs (bx (pAt ps i) s)).map fun _ => .int 1, ev 7 (pt y 4 none)) := c1
  unfold p__law_is_open fnP b__law_is_open isOpen
  rw [fnStart_st (by simp)]
  cases q : (barsHit bs (bx (pAt ps i) s)).isEmpty <;> simp [st0, ev_get, pt_ne, law_box_go s h, chart_0, chart_1, le_lim C.m, l1, noOwn_cons, restD_cons, c1', c2, neD_nil, eqD_nil, q]
theorem law_open_go (C : CF ps bs) (h : i < ps.length) : p__law_open [chartD ps bs, .int i] = .ok (.list ((opn ps bs i).map .int)) := by
  have c := opn_comp (bs := bs) C h (N := 3) (a := 2) (by omega) (mCall 3 p__law_is_open (mCons (mVar 0) (mCons (mVar 1) (mCons (mVar 2) mNil)))) (st0 [chartD ps bs, .int i]) fun s => by simp [ev_get, pt_ne, st0, law_is_open_go C s h]
  have hk := le_lim (C.k i h)
  have e5 : ixD (ptD (pAt ps i)) (.int 5) = .ok (.tuple ((pAt ps i).ks.map .int)) := by simp [ptD]
  unfold p__law_open fnP b__law_open
  rw [fnStart_st (by simp)]
  simp [st0, ev_get, chart_0, row_at h, e5, hk, noOwn_cons, restD_cons, c]
theorem law_pair_go (C : CF ps bs) {o : Nat} (s t : Int) (h : i < ps.length) (ho : o < ps.length) : p__law_pair [chartD ps bs, .int i, .int s, .int o, .int t] = .ok (.bool (decide (clash (bx (pAt ps i) s) (bx (pAt ps o) t)))) := by
  unfold p__law_pair fnP b__law_pair
  simp [fnStart, law_box_go s h, law_box_go t ho, meet_go (fat_bx s (C.w i h).1 (C.w i h).2) (fat_bx t (C.w o ho).1 (C.w o ho).2)]
end
end L2.DL.Cm

namespace L2.DL.Cm
open PySem PySem.Spec PyProof.Rows
section
variable {ps : List Pt} {bs : List Bx} {i : Nat}
/-- what names_hit gathers behind the first k points -/
def nh (ps : List Pt) (bs : List Bx) (i : Nat) (b : Bx) (k : Nat) : List (Nat × Int) := (List.range k).flatMap fun o => if o ≠ i then ((opn ps bs o).filter fun t => decide (clash b (bx (pAt ps o) t))).map fun t => (o, t) else []
theorem nh_all (b : Bx) : nh ps bs i b ps.length = namesHit ps bs i b := rfl
theorem nh_succ (b : Bx) (k : Nat) : nh ps bs i b (k + 1) = nh ps bs i b k ++ if k ≠ i then ((opn ps bs k).filter fun t => decide (clash b (bx (pAt ps k) t))).map fun t => (k, t) else [] := by
  unfold nh
  rw [List.range_succ, List.flatMap_append]
  simp
theorem nh_len (C : CF ps bs) (b : Bx) : ∀ k, k ≤ ps.length → (nh ps bs i b k).length ≤ k * 1000
  | 0, _ => by simp [nh]
  | k + 1, h => by
    rw [nh_succ, List.length_append]
    have ih := nh_len C b k (by omega)
    have hk := C.k k (by omega)
    have : (if k ≠ i then ((opn ps bs k).filter fun t => decide (clash b (bx (pAt ps k) t))).map fun t => (k, t) else ([] : List (Nat × Int))).length ≤ 1000 := by
      split
      · rw [List.length_map]
        refine Nat.le_trans (List.length_filter_le _ _) (Nat.le_trans ?_ hk)
        unfold opn
        exact List.length_filter_le _ _
      · simp
    omega
theorem opn_len (C : CF ps bs) (h : i < ps.length) : (opn ps bs i).length ≤ 1000 := by
  unfold opn
  exact Nat.le_trans (List.length_filter_le _ _) (C.k i h)
theorem mem_namesHit {b : Bx} {q : Nat × Int} : q ∈ namesHit ps bs i b ↔ q.1 < ps.length ∧ q.1 ≠ i ∧ q.2 ∈ opn ps bs q.1 ∧ clash b (bx (pAt ps q.1) q.2) := by
  unfold namesHit
  rw [List.mem_flatMap]
  constructor
  · rintro ⟨o, ho, h⟩
    have ho := List.mem_range.mp ho
    split at h
    · rename_i hne
      obtain ⟨t, ht, rfl⟩ := List.mem_map.mp h
      obtain ⟨h1, h2⟩ := List.mem_filter.mp ht
      exact ⟨ho, hne, h1, of_decide_eq_true h2⟩
    · cases h
  · rintro ⟨h1, h2, h3, h4⟩
    refine ⟨q.1, List.mem_range.mpr h1, ?_⟩
    rw [if_pos h2]
    exact List.mem_map.mpr ⟨q.2, List.mem_filter.mpr ⟨h3, decide_eq_true h4⟩, rfl⟩
theorem enum_opn (n : Nat) (g : Nat → D) : enumL ((List.range n).map g) = (List.range n).map fun (j : Nat) => .tuple [.int (j : Nat), g j] := by
  unfold enumL
  rw [List.zipIdx_map, List.map_map]
  refine List.ext_getElem? fun j => ?_
  rw [List.getElem?_map, List.getElem?_map, List.getElem?_zipIdx]
  by_cases h : j < n
  · rw [List.getElem?_range h]
    simp
  · rw [List.getElem?_eq_none (by rw [List.length_range]; omega)]
    rfl
theorem range_at {n : Nat} {α : Type} {g : Nat → α} {done rest : List α} {d : α} (h : (List.range n).map g = done ++ d :: rest) : done.length < n ∧ d = g done.length := by
  have hl := congrArg List.length h
  rw [List.length_map, List.length_range, List.length_append, List.length_cons] at hl
  have e : ((List.range n).map g)[done.length]? = some d := by rw [h, List.getElem?_append_right (Nat.le_refl _), Nat.sub_self]; rfl
  rw [List.getElem?_map, List.getElem?_range (by omega)] at e
  exact ⟨by omega, (Option.some.inj e).symm⟩
theorem names_hit_go (C : CF ps bs) (s : Int) (h : i < ps.length) : p_names_hit [chartD ps bs, .int i, .int s] = .ok (.tuple ((namesHit ps bs i (bx (pAt ps i) s)).map nmD)) := by
  let x0 : Nat → Option Sl := pt (pt (st0 [chartD ps bs, .int i, .int s]) 4 (some (Sl.own false []))) 3 (some (Sl.dat (bxD (bx (pAt ps i) s))))
  obtain ⟨ρ', L, x', e, hx, h4⟩ := forL_all (g := gT (gsC (gN 5) (gsC (gN 6) gsN)) 2) (b := b_names_hit_L0) (fun done ρ => ∃ x', ρ = ev 8 x' ∧ (∀ j, j ≠ 4 → j ≠ 5 → j ≠ 6 → x' j = x0 j) ∧ x' 4 = some (Sl.own false ((nh ps bs i (bx (pAt ps i) s) done.length).map nmD)))
    (ds := enumL ((List.range ps.length).map fun j => .tuple ((opn ps bs j).map .int))) (ρ := ev 8 x0) ⟨x0, rfl, fun _ _ _ _ => rfl, by simp [x0, pt_ne, nh]⟩ (fun done d rest ρ eall ⟨x1, e, hx, h4⟩ => by
      subst e
      rw [enum_opn] at eall
      obtain ⟨hk, rfl⟩ := range_at eall
      have x0' : x1 0 = some (Sl.dat (chartD ps bs)) := by rw [hx 0 (by decide) (by decide) (by decide)]; simp [x0, pt_ne, st0]
      have x1' : x1 1 = some (Sl.dat (.int (i : Nat))) := by rw [hx 1 (by decide) (by decide) (by decide)]; simp [x0, pt_ne, st0]
      have x3' : x1 3 = some (Sl.dat (bxD (bx (pAt ps i) s))) := by rw [hx 3 (by decide) (by decide) (by decide)]; simp [x0, pt_ne, st0]
      have x7' : x1 7 = none := by rw [hx 7 (by decide) (by decide) (by decide)]; simp [x0, pt_ne, st0]
      have c : ∀ y : Nat → Option Sl, y 0 = some (Sl.dat (chartD ps bs)) → y 3 = some (Sl.dat (bxD (bx (pAt ps i) s))) → y 5 = some (Sl.dat (.int (done.length : Nat))) → compL (gN 7) (mCall 2 p_do_clash (mCons (mVar 3) (mCons (mCall 3 p_box_of (mCons (mVar 0) (mCons (mVar 5) (mCons (mVar 7) mNil)))) mNil))) (mTup (mCons (mVar 5) (mCons (mVar 7) mNil))) [7] ((opn ps bs done.length).map .int) (ev 8 (pt y 7 none)) = .ok (((opn ps bs done.length).filter fun t => decide (clash (bx (pAt ps i) s) (bx (pAt ps done.length) t))).map fun t => nmD (done.length, t), ev 8 (pt y 7 none)) := fun y y0 y3 y5 => by
        refine comp1 (by omega) (fun t => .int t) _ _ y (fun t _ => ?_) (fun t _ _ => ?_)
        · simp [ev_get, pt_ne, y0, y3, y5, box_of_go t hk, clash_go]
        · simp [ev_get, pt_ne, y5, nmD]
      have ll := nh_len (i := i) C (bx (pAt ps i) s) (done.length + 1) (by omega)
      have ol := le_lim (opn_len C hk)
      rw [nh_succ, List.length_append] at ll
      have q := neD_nat done.length i
      by_cases hki : done.length = i
      · refine ⟨_, _, by simp; rfl, .inl (by unfold b_names_hit_L0; simp [ev_get, pt_ne, x1', q, hki]; rfl), _, rfl, fun j n4 n5 n6 => ?_, ?_⟩
        · rw [← hx j n4 n5 n6, pt_ne n6, pt_ne n5]
        · rw [pt_ne (by decide), pt_ne (by decide), h4, List.length_append, List.length_singleton, nh_succ, if_neg (by rw [hki]; simp), List.append_nil]
      · rw [if_pos hki, List.length_map] at ll
        have ll2 : (nh ps bs i (bx (pAt ps i) s) done.length).length + ((opn ps bs done.length).filter fun t => decide (clash (bx (pAt ps i) s) (bx (pAt ps done.length) t))).length ≤ lim := by
          have := C.n
          show _ ≤ 1000000
          have h2 : (done.length + 1) * 1000 ≤ 1000 * 1000 := Nat.mul_le_mul (by omega) (Nat.le_refl _)
          omega
        refine ⟨_, _, by simp; rfl, .inl (by unfold b_names_hit_L0; simp [ev_get, pt_ne, x0', x1', x3', x7', h4, q, hki, ol, noOwn_cons, restD_cons, c, ll2]; rfl), _, rfl, fun j n4 n5 n6 => ?_, ?_⟩
        · rw [← hx j n4 n5 n6]
          unfold pt
          (repeat' split) <;> simp_all
        · rw [List.length_append, List.length_singleton, nh_succ, if_pos hki]
          simp [List.map_append, nmD])
  subst e
  have nl : (List.map (fun j => PyData.tuple ((opn ps bs j).map .int)) (List.range ps.length)).length ≤ lim := by rw [List.length_map, List.length_range]; exact le_lim C.n
  rw [enumL_len, List.length_map, List.length_range, nh_all] at h4
  unfold p_names_hit fnP b_names_hit
  rw [fnStart_st (by simp)]
  simp [x0, st0] at L
  simp [st0, ev_get, pt_ne, box_of_go s h, all_open_go C, L, h4]
end
end L2.DL.Cm

namespace L2.DL.k07
open PySem PySem.Spec PyProof.Rows L2.DL.Cm
noncomputable def b_law_L3 : EvS := (mIfS (mCmp neD (mVar 13) (mVar 7)) (mExt 12 (mComp (mSeqI (mOp ixD (mVar 6) (mVar 13))) [18] (gN 18) (mCall 5 p__law_pair (mCons (mVar 3) (mCons (mVar 7) (mCons (mVar 8) (mCons (mVar 13) (mCons (mVar 18) mNil)))))) (mTup (mCons (mVar 13) (mCons (mVar 18) mNil))))) mNx)
noncomputable def b_law_L2 : EvS := (mSeq (mSet 9 (mCall 3 p__law_box (mCons (mVar 3) (mCons (mVar 7) (mCons (mVar 8) mNil))))) (mSeq (mSet 10 (mV tupS (mView (mOfL (mComp (mEnum (mOp ixD (mVar 3) (mC (.int 1)))) [15, 16] (gT (gsC (gN 15) (gsC (gN 16) gsN)) 2) (mCall 2 p__law_meet (mCons (mVar 9) (mCons (mVar 16) mNil))) (mVar 15)))))) (mSeq (mSet 11 (mV tupS (mView (mOfL (mComp (mEnum (mOp ixD (mVar 3) (mC (.int 0)))) [15, 17] (gT (gsC (gN 15) (gsC (gN 17) gsN)) 2) (mAnd (mCmp neD (mVar 15) (mVar 7)) (mCall 3 p__law_covers (mCons (mVar 9) (mCons (mOp ixD (mVar 17) (mC (.int 1))) (mCons (mOp ixD (mVar 17) (mC (.int 2))) mNil))))) (mVar 15)))))) (mSeq (mSetOwn 12 (mLst mNil)) (mSeq (mFor (mSeqI (mVar 4)) (gN 13) b_law_L3) (mSeq (mSet 14 (mOfL (mLst (mCons (mCall 3 p_bars_hit (mCons (mVar 3) (mCons (mVar 7) (mCons (mVar 8) mNil)))) (mCons (mCall 3 p_points_hit (mCons (mVar 3) (mCons (mVar 7) (mCons (mVar 8) mNil)))) (mCons (mCall 3 p_is_open (mCons (mVar 3) (mCons (mVar 7) (mCons (mVar 8) mNil)))) (mCons (mCall 3 p_names_hit (mCons (mVar 3) (mCons (mVar 7) (mCons (mVar 8) mNil)))) mNil))))))) (mSeq (mIfS (mNot (mCall 2 p__law_alike (mCons (mVar 14) (mCons (mOfL (mLst (mCons (mVar 10) (mCons (mVar 11) (mCons (mAnd (mCmp eqD (mVar 10) (mTup mNil)) (mCmp eqD (mVar 11) (mTup mNil))) (mCons (mV tupS (mOwn 12)) mNil)))))) mNil)))) (mRet (mC (.bool false))) mNx) (mFrz 12 (mIfS (mCmp (inD false) (mVar 8) (mOp ixD (mVar 6) (mVar 7))) (mExt 5 (mComp (mSeqI (mVar 12)) [19] (gN 19) (mC (.bool true)) (mTup (mCons (mTup (mCons (mVar 7) (mCons (mVar 8) mNil))) (mCons (mVar 19) mNil))))) mNx)))))))))
noncomputable def b_law_L1 : EvS := (mFor (mSeqI (mOp ixD (mOp ixD (mOp ixD (mVar 3) (mC (.int 0))) (mVar 7)) (mC (.int 5)))) (gN 8) b_law_L2)
noncomputable def b_law_L0 : EvS := (mSeq (mSet 3 (mCallB 5 p__law_chart 1 (mCons (mC (.int 4)) (mCons (mC (.int 4)) (mCons (mC (.int 2)) (mCons (mC (.int 12)) mNil)))))) (mSeq (mPar [4, 5] [(.d (mOfL (mLRg (mRng1 (mV lenS (mView (mOp ixD (mVar 3) (mC (.int 0))))))))), (.o (mLst mNil))]) (mSeq (mSet 6 (mOfL (mComp (mSeqI (mVar 4)) [7] (gN 7) (mC (.bool true)) (mV tupS (mView (mCall 2 p__law_open (mCons (mVar 3) (mCons (mVar 7) mNil)))))))) (mSeq (mIfS (mNot (mCall 2 p__law_alike (mCons (mOfL (mLst (mCons (mCall 1 p_all_open (mCons (mVar 3) mNil)) (mCons (mOfL (mComp (mSeqI (mVar 4)) [7] (gN 7) (mC (.bool true)) (mCall 2 p_open_stands (mCons (mVar 3) (mCons (mVar 7) mNil))))) mNil)))) (mCons (mOfL (mLst (mCons (mV tupS (mView (mVar 6))) (mCons (mVar 6) mNil)))) mNil)))) (mRet (mC (.bool false))) mNx) (mSeq (mFor (mSeqI (mVar 4)) (gN 7) b_law_L1) (mFrz 5 (mIfS (mCmp neD (mOfL (mComp (mSeqI (mVar 5)) [20, 13] (gT (gsC (gN 20) (gsC (gN 13) gsN)) 2) (mCmp (inD true) (mTup (mCons (mVar 13) (mCons (mVar 20) mNil))) (mVar 5)) (mC (.int 1)))) (mOfL (mLst mNil))) (mRet (mC (.bool false))) mNx)))))))
noncomputable def b_law : EvS := (mSeq (mSetOwn 1 (mCallL 1 p__law_bag (mCons (mVar 0) mNil))) (mSeq (mFor (mRng1 (mC (.int 8))) (gN 2) b_law_L0) (mRet (mC (.bool true)))))
noncomputable def p_law : List D → Res D := fnP 21 b_law
end L2.DL.k07

namespace L2.DL.k07
open PySem PySem.Spec PyProof.Rows L2.DL.Cm
section
variable {ps : List Pt} {bs : List Bx}
def openedL (ps : List Pt) (bs : List Bx) : List D := (List.range ps.length).map fun j => .tuple ((opn ps bs j).map .int)
theorem opened_at {i : Nat} (h : i < ps.length) : ixD (.list (openedL ps bs)) (.int (i : Nat)) = .ok (.tuple ((opn ps bs i).map .int)) := by
  unfold openedL
  rw [ixD_l, atI_lit _ (by rw [List.length_map, List.length_range]; exact h), List.getElem?_map, List.getElem?_range h]
  rfl
/-- what does not change while a chart is looked at -/
structure Fix (ps : List Pt) (bs : List Bx) (x : Nat → Option Sl) : Prop where
  c : x 3 = some (Sl.dat (chartD ps bs))
  p : x 4 = some (Sl.dat (.list (rngD 0 ps.length)))
  o : x 6 = some (Sl.dat (.list (openedL ps bs)))
  n15 : nO (x 15) = true
  n16 : nO (x 16) = true
  n17 : nO (x 17) = true
  n18 : nO (x 18) = true
  n19 : nO (x 19) = true
def fixed : List Nat := [0, 1, 2, 3, 4, 6, 7, 15, 16, 17, 18, 19, 20]
theorem Fix.of {x x' : Nat → Option Sl} (F : Fix ps bs x) (h : ∀ j ∈ fixed, j ≠ 7 → x' j = x j) : Fix ps bs x' := by
  obtain ⟨h1, h2, h3, h4, h5, h6, h7, h8⟩ := F
  exact ⟨by rw [h 3 (by decide) (by decide), h1], by rw [h 4 (by decide) (by decide), h2], by rw [h 6 (by decide) (by decide), h3], by rw [h 15 (by decide) (by decide), h4], by rw [h 16 (by decide) (by decide), h5], by rw [h 17 (by decide) (by decide), h6], by rw [h 18 (by decide) (by decide), h7], by rw [h 19 (by decide) (by decide), h8]⟩
theorem names_loop (C : CF ps bs) {i : Nat} (h : i < ps.length) (s : Int) {x0 : Nat → Option Sl} (F : Fix ps bs x0) (h7 : x0 7 = some (Sl.dat (.int (i : Nat)))) (h8 : x0 8 = some (Sl.dat (.int s))) (h12 : x0 12 = some (Sl.own false [])) (h13 : nO (x0 13) = true) :
    ∃ x', forL (gN 13) b_law_L3 (rngD 0 ps.length) (ev 21 x0) = .ok (.nx, ev 21 x') ∧ nO (x' 13) = true ∧ (∀ j, j ≠ 12 → j ≠ 13 → x' j = x0 j) ∧ x' 12 = some (Sl.own false ((namesHit ps bs i (bx (pAt ps i) s)).map nmD)) := by
  obtain ⟨ρ', L, x', e, h13', hx, h4⟩ := forL_all (g := gN 13) (b := b_law_L3) (fun done ρ => ∃ x', ρ = ev 21 x' ∧ nO (x' 13) = true ∧ (∀ j, j ≠ 12 → j ≠ 13 → x' j = x0 j) ∧ x' 12 = some (Sl.own false ((nh ps bs i (bx (pAt ps i) s) done.length).map nmD)))
    (ds := rngD 0 ps.length) (ρ := ev 21 x0) ⟨x0, rfl, h13, fun _ _ _ => rfl, by rw [h12]; simp [nh]⟩ (fun done d rest ρ eall ⟨x1, e, _, hx, h4⟩ => by
      subst e
      rw [rngD_0] at eall
      obtain ⟨hk, rfl⟩ := range_at eall
      have x3' : x1 3 = some (Sl.dat (chartD ps bs)) := by rw [hx 3 (by decide) (by decide), F.c]
      have x6' : x1 6 = some (Sl.dat (.list (openedL ps bs))) := by rw [hx 6 (by decide) (by decide), F.o]
      have x7' : x1 7 = some (Sl.dat (.int (i : Nat))) := by rw [hx 7 (by decide) (by decide), h7]
      have x8' : x1 8 = some (Sl.dat (.int s)) := by rw [hx 8 (by decide) (by decide), h8]
      have x18' : nO (x1 18) = true := by rw [hx 18 (by decide) (by decide), F.n18]
      have c : ∀ y : Nat → Option Sl, y 3 = some (Sl.dat (chartD ps bs)) → y 7 = some (Sl.dat (.int (i : Nat))) → y 8 = some (Sl.dat (.int s)) → y 13 = some (Sl.dat (.int (done.length : Nat))) → compL (gN 18) (mCall 5 p__law_pair (mCons (mVar 3) (mCons (mVar 7) (mCons (mVar 8) (mCons (mVar 13) (mCons (mVar 18) mNil)))))) (mTup (mCons (mVar 13) (mCons (mVar 18) mNil))) [18] ((opn ps bs done.length).map .int) (ev 21 (pt y 18 none)) = .ok (((opn ps bs done.length).filter fun t => decide (clash (bx (pAt ps i) s) (bx (pAt ps done.length) t))).map fun t => nmD (done.length, t), ev 21 (pt y 18 none)) := fun y y3 y7 y8 y13 => by
        refine comp1 (by omega) (fun t => .int t) _ _ y (fun t _ => ?_) (fun t _ _ => ?_)
        · simp [ev_get, pt_ne, y3, y7, y8, y13, law_pair_go C s t h hk]
        · simp [ev_get, pt_ne, y13, nmD]
      have ll := nh_len (i := i) C (bx (pAt ps i) s) (done.length + 1) (by omega)
      have ol := le_lim (opn_len C hk)
      have oa := opened_at (ps := ps) (bs := bs) hk
      simp only [ixD_l] at oa
      rw [nh_succ, List.length_append] at ll
      have q := neD_nat done.length i
      by_cases hki : done.length = i
      · refine ⟨_, _, by simp; rfl, .inl (by unfold b_law_L3; simp [ev_get, pt_ne, x7', q, hki]; rfl), _, rfl, by simp, fun j n4 n5 => ?_, ?_⟩
        · rw [← hx j n4 n5, pt_ne n5]
        · rw [pt_ne (by decide), h4, List.length_append, List.length_singleton, nh_succ, if_neg (by rw [hki]; simp), List.append_nil]
      · rw [if_pos hki, List.length_map] at ll
        have ll2 : (nh ps bs i (bx (pAt ps i) s) done.length).length + ((opn ps bs done.length).filter fun t => decide (clash (bx (pAt ps i) s) (bx (pAt ps done.length) t))).length ≤ lim := by
          have := C.n
          show _ ≤ 1000000
          have h2 : (done.length + 1) * 1000 ≤ 1000 * 1000 := Nat.mul_le_mul (by omega) (Nat.le_refl _)
          omega
        refine ⟨_, _, by simp; rfl, .inl (by unfold b_law_L3; simp [ev_get, pt_ne, x3', x6', x7', x8', x18', h4, q, hki, oa, ol, noOwn_cons, restD_cons, c, ll2]; rfl), _, rfl, by simp [pt_ne], fun j n4 n5 => ?_, ?_⟩
        · rw [← hx j n4 n5]
          unfold pt
          (repeat' split) <;> simp_all
        · rw [List.length_append, List.length_singleton, nh_succ, if_pos hki]
          simp [List.map_append, nmD])
  subst e
  rw [rngD_len, nh_all] at h4
  exact ⟨x', L, h13', hx, h4⟩
/-- a stand and a couple that it hits -/
abbrev Hit := (Nat × Int) × (Nat × Int)
def hD (q : Hit) : D := .tuple [nmD q.1, nmD q.2]
def hitsOf (ps : List Pt) (bs : List Bx) (i : Nat) (s : Int) : List Hit := if s ∈ opn ps bs i then (namesHit ps bs i (bx (pAt ps i) s)).map fun c => ((i, s), c) else []
theorem okL_map {α : Type} (f : α → D) (h : ∀ a, okD (f a) = true) : ∀ l : List α, okL (l.map f) = true
  | [] => rfl
  | a :: l => by simp [okL, h a, okL_map f h l]
theorem szL_map {α : Type} (f : α → D) (c : Nat) (h : ∀ a, sz (f a) ≤ c) : ∀ l : List α, szL (l.map f) ≤ l.length * c
  | [] => by simp [szL]
  | a :: l => by
    have := h a
    have ih := szL_map f c h l
    simp only [List.map_cons, szL, List.length_cons, Nat.succ_mul]
    omega
theorem stand_go (C : CF ps bs) (hn : ps.length ≤ 10) {i : Nat} (h : i < ps.length) (s : Int) {x : Nat → Option Sl} (F : Fix ps bs x) (h7 : x 7 = some (Sl.dat (.int (i : Nat)))) (h8 : x 8 = some (Sl.dat (.int s))) {hs : List Hit} (h5 : x 5 = some (Sl.own false (hs.map hD))) (hl : hs.length ≤ 900000) (h13 : nO (x 13) = true) :
    ∃ x', b_law_L2 (ev 21 x) = .ok (.nx, ev 21 x') ∧ nO (x' 13) = true ∧ (∀ j ∈ fixed, x' j = x j) ∧ x' 5 = some (Sl.own false ((hs ++ hitsOf ps bs i s).map hD)) := by
  let x1 := pt (pt (pt (pt x 9 (some (Sl.dat (bxD (bx (pAt ps i) s))))) 10 (some (Sl.dat (.tuple (nD (barsHit bs (bx (pAt ps i) s))))))) 11 (some (Sl.dat (.tuple (nD (ptsHit ps (bx (pAt ps i) s) i)))))) 12 (some (Sl.own false []))
  have F1 : Fix ps bs x1 := F.of fun j hj _ => by
    simp only [fixed, List.mem_cons, List.not_mem_nil, or_false] at hj
    show pt (pt (pt (pt x 9 _) 10 _) 11 _) 12 _ j = _
    rw [pt_ne (by omega), pt_ne (by omega), pt_ne (by omega), pt_ne (by omega)]
  obtain ⟨x2, L, x2_13, hx2, x2_12⟩ := names_loop C h s (x0 := x1) F1 (by simp [x1, pt_ne, h7]) (by simp [x1, pt_ne, h8]) (by simp [x1]) (by simp [x1, pt_ne, h13])
  have c1 : ∀ y : Nat → Option Sl, y 9 = some (Sl.dat (bxD (bx (pAt ps i) s))) → compL (gT (gsC (gN 15) (gsC (gN 16) gsN)) 2) (mCall 2 p__law_meet (mCons (mVar 9) (mCons (mVar 16) mNil))) (mVar 15) [15, 16] (enumL (bs.map bxD)) (ev 21 (pt (pt y 16 none) 15 none)) = .ok (nD (barsHit bs (bx (pAt ps i) s)), ev 21 (pt (pt y 16 none) 15 none)) := fun y y9 => by
    rw [enumL_range default]
    refine comp2 (by omega) (by omega) (by omega) (fun (j : Nat) => .int (j : Nat)) (fun j => bxD (bs.getD j default)) (fun j => decide (clash (bx (pAt ps i) s) (bAt bs j))) (fun (j : Nat) => .int (j : Nat)) y (fun j hj => ?_) (fun j _ _ => by simp [ev_get, pt_ne])
    simp [ev_get, pt_ne, y9, meet_go (fat_bx s (C.w i h).1 (C.w i h).2) (show Fat (bs[j]?.getD default) by have := C.f j (List.mem_range.mp hj); unfold bAt at this; simpa using this)]
    unfold bAt
    simp
  have c2 : ∀ y : Nat → Option Sl, y 7 = some (Sl.dat (.int (i : Nat))) → y 9 = some (Sl.dat (bxD (bx (pAt ps i) s))) → compL (gT (gsC (gN 15) (gsC (gN 17) gsN)) 2) (mAnd (mCmp neD (mVar 15) (mVar 7)) (mCall 3 p__law_covers (mCons (mVar 9) (mCons (mOp ixD (mVar 17) (mC (.int 1))) (mCons (mOp ixD (mVar 17) (mC (.int 2))) mNil))))) (mVar 15) [15, 17] (enumL (ps.map ptD)) (ev 21 (pt (pt y 17 none) 15 none)) = .ok (nD (ptsHit ps (bx (pAt ps i) s) i), ev 21 (pt (pt y 17 none) 15 none)) := fun y y7 y9 => by
    rw [enumL_range default]
    refine comp2 (by omega) (by omega) (by omega) (fun (j : Nat) => .int (j : Nat)) (fun j => ptD (ps.getD j default)) (fun j => decide (j ≠ i) && decide (cov (bx (pAt ps i) s) (pAt ps j).x (pAt ps j).y)) (fun (j : Nat) => .int (j : Nat)) y (fun j _ => ?_) (fun j _ _ => by simp [ev_get, pt_ne])
    have q := neD_nat j i
    by_cases hji : j = i
    · simp [ev_get, pt_ne, y7, q, hji]
    · simp [ev_get, pt_ne, y7, y9, q, hji, ptD, law_covers_go]
      rfl
  have hnl : (namesHit ps bs i (bx (pAt ps i) s)).length ≤ 10000 := by
    have := nh_len (i := i) C (bx (pAt ps i) s) ps.length (Nat.le_refl _)
    rw [nh_all] at this
    have h2 : ps.length * 1000 ≤ 10 * 1000 := Nat.mul_le_mul hn (Nat.le_refl _)
    omega
  have c3 : ∀ y : Nat → Option Sl, y 7 = some (Sl.dat (.int (i : Nat))) → y 8 = some (Sl.dat (.int s)) → compL (gN 19) (mC (.bool true)) (mTup (mCons (mTup (mCons (mVar 7) (mCons (mVar 8) mNil))) (mCons (mVar 19) mNil))) [19] ((namesHit ps bs i (bx (pAt ps i) s)).map nmD) (ev 21 (pt y 19 none)) = .ok (((namesHit ps bs i (bx (pAt ps i) s)).map fun c => ((i, s), c)).map hD, ev 21 (pt y 19 none)) := fun y y7 y8 => by
    have := comp1 (N := 21) (a := 19) (tt := mC (.bool true)) (e := mTup (mCons (mTup (mCons (mVar 7) (mCons (mVar 8) mNil))) (mCons (mVar 19) mNil))) (by omega) nmD (fun _ => true) (fun c => hD ((i, s), c)) (xs := namesHit ps bs i (bx (pAt ps i) s)) y (fun _ _ => rfl) fun c _ _ => by simp [ev_get, pt_ne, y7, y8, hD, nmD]
    rw [this, List.filter_eq_self.mpr (fun _ _ => rfl), List.map_map]
    rfl
  have e1 := bars_hit_go (bs := bs) s h (Nat.le_trans C.m (by decide))
  have e2 := points_hit_go C s h
  have e3 := is_open_go C s h
  have e4 := names_hit_go C s h
  have oa := opened_at (ps := ps) (bs := bs) h
  have ins : inD false (.int s) (.tuple ((opn ps bs i).map .int)) = .ok (decide (s ∈ opn ps bs i)) := inD_ints false s (opn ps bs i) true
  have al : p__law_alike [.list [.tuple (nD (barsHit bs (bx (pAt ps i) s))), .tuple (nD (ptsHit ps (bx (pAt ps i) s) i)), .bool (isOpen ps bs i s), .tuple ((namesHit ps bs i (bx (pAt ps i) s)).map nmD)], .list [.tuple (nD (barsHit bs (bx (pAt ps i) s))), .tuple (nD (ptsHit ps (bx (pAt ps i) s) i)), .bool (isOpen ps bs i s), .tuple ((namesHit ps bs i (bx (pAt ps i) s)).map nmD)]] = .ok (.bool true) := by
    refine alike_go ?_ ?_
    · simp only [okD, okL, nD, Bool.and_true, Bool.and_eq_true]
      exact ⟨okL_map _ (fun _ => rfl) _, okL_map _ (fun _ => rfl) _, trivial, okL_map _ (fun _ => rfl) _⟩
    · have q1 := szL_map (fun (j : Nat) => PyData.int (j : Int)) 1 (fun _ => by simp [sz]) (barsHit bs (bx (pAt ps i) s))
      have q2 := szL_map (fun (j : Nat) => PyData.int (j : Int)) 1 (fun _ => by simp [sz]) (ptsHit ps (bx (pAt ps i) s) i)
      have q3 := szL_map nmD 3 (fun _ => by simp [sz, szL, nmD]) (namesHit ps bs i (bx (pAt ps i) s))
      have l1 : (barsHit bs (bx (pAt ps i) s)).length ≤ 1000 := Nat.le_trans (List.length_filter_le _ _) (by rw [List.length_range]; exact C.m)
      have l2 : (ptsHit ps (bx (pAt ps i) s) i).length ≤ 1000 := Nat.le_trans (List.length_filter_le _ _) (by rw [List.length_range]; exact C.n)
      simp only [sz, szL, nD]
      omega
  have lb : (enumL (bs.map bxD)).length ≤ lim := by rw [enumL_len, List.length_map]; exact le_lim C.m
  have lp : (enumL (ps.map ptD)).length ≤ lim := by rw [enumL_len, List.length_map]; exact le_lim C.n
  have x2f : ∀ j ∈ fixed, x2 j = x j := fun j hj => by
    simp only [fixed, List.mem_cons, List.not_mem_nil, or_false] at hj
    rw [hx2 j (by omega) (by omega)]
    show pt (pt (pt (pt x 9 _) 10 _) 11 _) 12 _ j = _
    rw [pt_ne (by omega), pt_ne (by omega), pt_ne (by omega), pt_ne (by omega)]
  have x2_3 : x2 3 = some (Sl.dat (chartD ps bs)) := by rw [x2f 3 (by decide), F.c]
  have x2_6 : x2 6 = some (Sl.dat (.list (openedL ps bs))) := by rw [x2f 6 (by decide), F.o]
  have x2_7 : x2 7 = some (Sl.dat (.int (i : Nat))) := by rw [x2f 7 (by decide), h7]
  have x2_8 : x2 8 = some (Sl.dat (.int s)) := by rw [hx2 8 (by decide) (by decide)]; simp [x1, pt_ne, h8]
  have x2_19 : nO (x2 19) = true := by rw [x2f 19 (by decide), F.n19]
  have x2_5 : x2 5 = some (Sl.own false (hs.map hD)) := by rw [hx2 5 (by decide) (by decide)]; simp [x1, pt_ne, h5]
  have x2_10 : x2 10 = some (Sl.dat (.tuple (nD (barsHit bs (bx (pAt ps i) s))))) := by rw [hx2 10 (by decide) (by decide)]; simp [x1, pt_ne]
  have x2_11 : x2 11 = some (Sl.dat (.tuple (nD (ptsHit ps (bx (pAt ps i) s) i)))) := by rw [hx2 11 (by decide) (by decide)]; simp [x1, pt_ne]
  have nl : (namesHit ps bs i (bx (pAt ps i) s)).length ≤ lim := by show _ ≤ 1000000; omega
  have hnl2 : hs.length + (namesHit ps bs i (bx (pAt ps i) s)).length ≤ lim := by show _ ≤ 1000000; omega
  simp only [x1] at L
  unfold isOpen at e3 al
  simp only [ixD_l] at oa
  have fin : ∀ (y : Nat → Option Sl) (u v w : Option Sl), (∀ j ∈ fixed, y j = x j) → ∀ j ∈ fixed, pt (pt (pt y 14 u) 12 v) 5 w j = x j := fun y u v w hy j hj => by
    have hj' := hj
    simp only [fixed, List.mem_cons, List.not_mem_nil, or_false] at hj'
    rw [pt_ne (by omega), pt_ne (by omega), pt_ne (by omega)]
    exact hy j hj
  have fin2 : ∀ (y : Nat → Option Sl) (u v : Option Sl), (∀ j ∈ fixed, y j = x j) → ∀ j ∈ fixed, pt (pt y 14 u) 12 v j = x j := fun y u v hy j hj => by
    have hj' := hj
    simp only [fixed, List.mem_cons, List.not_mem_nil, or_false] at hj'
    rw [pt_ne (by omega), pt_ne (by omega)]
    exact hy j hj
  have key : ∀ b1 b2 : Bool, (barsHit bs (bx (pAt ps i) s)).isEmpty = b1 → (ptsHit ps (bx (pAt ps i) s) i).isEmpty = b2 →
      ∃ x', b_law_L2 (ev 21 x) = .ok (.nx, ev 21 x') ∧ nO (x' 13) = true ∧ (∀ j ∈ fixed, x' j = x j) ∧ x' 5 = some (Sl.own false ((hs ++ hitsOf ps bs i s).map hD)) := by
    intro b1 b2 q1 q2
    rw [q1, q2] at al e3
    by_cases hin : s ∈ opn ps bs i
    · cases b1 <;> cases b2 <;> simp only [Bool.and_true, Bool.and_false] at al e3
      all_goals
        refine ⟨_, by
          unfold b_law_L2
          simp [-kComp2_ap, kComp2_one, kComp2_two, ev_get, pt_ne, F.c, F.p, F.o, F.n15, F.n16, F.n17, h7, h8, law_box_go s h, chart_0, chart_1, lb, lp, noOwn_cons, c1, c2, L, x2_3, x2_5, x2_6, x2_7, x2_8, x2_10, x2_11, x2_12, x2_19, e1, e2, e3, e4, eqD_nilT, nD_empty, q1, q2, al, oa, ins, hin, nl, c3, hnl2]
          rfl, by simp [pt_ne, x2_13], fin _ _ _ _ x2f, ?_⟩
        simp [hitsOf, hin]
    · cases b1 <;> cases b2 <;> simp only [Bool.and_true, Bool.and_false] at al e3
      all_goals
        refine ⟨_, by
          unfold b_law_L2
          simp [-kComp2_ap, kComp2_one, kComp2_two, ev_get, pt_ne, F.c, F.p, F.o, F.n15, F.n16, F.n17, h7, h8, law_box_go s h, chart_0, chart_1, lb, lp, noOwn_cons, c1, c2, L, x2_3, x2_5, x2_6, x2_7, x2_8, x2_10, x2_11, x2_12, x2_19, e1, e2, e3, e4, eqD_nilT, nD_empty, q1, q2, al, oa, ins, hin, nl, c3, hnl2]
          rfl, by simp [pt_ne, x2_13], fin2 _ _ _ x2f, ?_⟩
        simp [hitsOf, hin, pt_ne, x2_5]
  exact key _ _ rfl rfl
end
end L2.DL.k07

namespace L2.DL.k07
open PySem PySem.Spec PyProof.Rows L2.DL.Cm
section
variable {ps : List Pt} {bs : List Bx}
theorem hits_len (C : CF ps bs) (hn : ps.length ≤ 10) (i : Nat) (s : Int) : (hitsOf ps bs i s).length ≤ 10000 := by
  have := nh_len (i := i) C (bx (pAt ps i) s) ps.length (Nat.le_refl _)
  rw [nh_all] at this
  have h2 : ps.length * 1000 ≤ 10 * 1000 := Nat.mul_le_mul hn (Nat.le_refl _)
  unfold hitsOf
  split
  · rw [List.length_map]; omega
  · simp
theorem flat_len {α β : Type} (f : α → List β) (c : Nat) (h : ∀ a, (f a).length ≤ c) : ∀ l : List α, (l.flatMap f).length ≤ l.length * c
  | [] => by simp
  | a :: l => by
    have := h a
    have ih := flat_len f c h l
    rw [List.flatMap_cons, List.length_append, List.length_cons, Nat.succ_mul]
    omega
theorem map_split {α β : Type} {f : α → β} {l : List α} {done rest : List β} {d : β} (h : l.map f = done ++ d :: rest) : ∃ us a vs, l = us ++ a :: vs ∧ us.map f = done ∧ f a = d := by
  obtain ⟨us, l2, e1, e2, e3⟩ := List.map_eq_append_iff.mp h
  cases l2 with
  | nil => cases e3
  | cons a vs =>
    rw [List.map_cons] at e3
    injection e3 with e3 e4
    exact ⟨us, a, vs, e1, e2, e3⟩
theorem int_inj {us vs : List Int} (h : us.map PyData.int = vs.map PyData.int) : us = vs := (List.map_inj_right (fun a b h => by injection h)).mp h
theorem stands_loop (C : CF ps bs) (hn : ps.length ≤ 10) {i : Nat} (h : i < ps.length) {x0 : Nat → Option Sl} (F : Fix ps bs x0) (h7 : x0 7 = some (Sl.dat (.int (i : Nat)))) {hs : List Hit} (h5 : x0 5 = some (Sl.own false (hs.map hD))) (h13 : nO (x0 13) = true) (hl : hs.length + (pAt ps i).ks.length * 10000 ≤ 900000) :
    ∃ x', forL (gN 8) b_law_L2 ((pAt ps i).ks.map .int) (ev 21 x0) = .ok (.nx, ev 21 x') ∧ nO (x' 13) = true ∧ (∀ j ∈ fixed, x' j = x0 j) ∧ x' 5 = some (Sl.own false ((hs ++ (pAt ps i).ks.flatMap (hitsOf ps bs i)).map hD)) := by
  obtain ⟨ρ', L, x', us, e0, e, k13, kf, k5⟩ := forL_all (g := gN 8) (b := b_law_L2) (fun done ρ => ∃ x' us, done = us.map PyData.int ∧ ρ = ev 21 x' ∧ nO (x' 13) = true ∧ (∀ j ∈ fixed, x' j = x0 j) ∧ x' 5 = some (Sl.own false ((hs ++ us.flatMap (hitsOf ps bs i)).map hD))) (ds := (pAt ps i).ks.map .int) (ρ := ev 21 x0)
    ⟨x0, [], rfl, rfl, h13, fun _ _ => rfl, by simp [h5]⟩ (fun done d rest ρ eall ⟨x1, us, ed, e, k13, kf, k5⟩ => by
      subst e
      obtain ⟨us', s, vs, e1, e2, rfl⟩ := map_split eall
      have eu : us = us' := int_inj (ed.symm.trans e2.symm)
      subst eu
      have hlen : us.length + 1 ≤ (pAt ps i).ks.length := by rw [e1]; simp
      have fl := flat_len (hitsOf ps bs i) 10000 (hits_len C hn i) us
      have F1 : Fix ps bs (pt x1 8 (some (Sl.dat (.int s)))) := F.of fun j hj _ => by
        have hj' := hj
        simp only [fixed, List.mem_cons, List.not_mem_nil, or_false] at hj'
        rw [pt_ne (by omega)]
        exact kf j hj
      obtain ⟨x2, g1, g2, g3, g4⟩ := stand_go C hn h s (x := pt x1 8 (some (Sl.dat (.int s)))) F1 (by rw [pt_ne (by decide), kf 7 (by decide), h7]) (by simp) (hs := hs ++ us.flatMap (hitsOf ps bs i)) (by rw [pt_ne (by decide), k5]) (by rw [List.length_append]; have : us.length * 10000 ≤ (pAt ps i).ks.length * 10000 := Nat.mul_le_mul (by omega) (Nat.le_refl _); omega) (by rw [pt_ne (by decide)]; exact k13)
      refine ⟨_, ev 21 x2, by simp, .inl g1, x2, us ++ [s], by rw [ed, List.map_append]; rfl, rfl, g2, fun j hj => ?_, ?_⟩
      · have hj' := hj
        simp only [fixed, List.mem_cons, List.not_mem_nil, or_false] at hj'
        rw [g3 j hj, pt_ne (by omega)]
        exact kf j hj
      · rw [g4, List.flatMap_append, List.append_assoc]
        simp)
  subst e
  have eu := int_inj e0
  subst eu
  exact ⟨x', L, k13, kf, k5⟩
def hitsPt (ps : List Pt) (bs : List Bx) (i : Nat) : List Hit := (pAt ps i).ks.flatMap (hitsOf ps bs i)
def hitsAll (ps : List Pt) (bs : List Bx) : List Hit := (List.range ps.length).flatMap (hitsPt ps bs)
theorem point_go (C : CF ps bs) (hn : ps.length ≤ 10) {i : Nat} (h : i < ps.length) {x0 : Nat → Option Sl} (F : Fix ps bs x0) (h7 : x0 7 = some (Sl.dat (.int (i : Nat)))) {hs : List Hit} (h5 : x0 5 = some (Sl.own false (hs.map hD))) (h13 : nO (x0 13) = true) (hl : hs.length + (pAt ps i).ks.length * 10000 ≤ 900000) :
    ∃ x', b_law_L1 (ev 21 x0) = .ok (.nx, ev 21 x') ∧ nO (x' 13) = true ∧ (∀ j ∈ fixed, x' j = x0 j) ∧ x' 5 = some (Sl.own false ((hs ++ hitsPt ps bs i).map hD)) := by
  obtain ⟨x', L, k1, k2, k3⟩ := stands_loop C hn h F h7 h5 h13 hl
  refine ⟨x', ?_, k1, k2, k3⟩
  have e5 : ixD (ptD (pAt ps i)) (.int 5) = .ok (.tuple ((pAt ps i).ks.map .int)) := by simp [ptD]
  unfold b_law_L1
  simp [ev_get, F.c, h7, chart_0, row_at h, e5, L]
theorem all_len (C : CF ps bs) (hn : ps.length ≤ 10) (hk : ∀ i, i < ps.length → (pAt ps i).ks.length ≤ 4) : ∀ k, k ≤ ps.length → ((List.range k).flatMap (hitsPt ps bs)).length ≤ k * 40000 := by
  have hp : ∀ i, i < ps.length → (hitsPt ps bs i).length ≤ 40000 := fun i hi => by
    have q := flat_len (hitsOf ps bs i) 10000 (hits_len C hn i) (pAt ps i).ks
    have := hk i hi
    unfold hitsPt
    omega
  intro k
  induction k with
  | zero => intro _; simp
  | succ k ih =>
    intro hk'
    rw [List.range_succ, List.flatMap_append, List.length_append]
    have := ih (by omega)
    have := hp k (by omega)
    have e1 : [k].flatMap (hitsPt ps bs) = hitsPt ps bs k := by simp
    rw [e1]
    omega
theorem points_loop (C : CF ps bs) (hn : ps.length ≤ 10) (hk : ∀ i, i < ps.length → (pAt ps i).ks.length ≤ 4) {x0 : Nat → Option Sl} (F : Fix ps bs x0) (h5 : x0 5 = some (Sl.own false [])) (h7 : nO (x0 7) = true) (h13 : nO (x0 13) = true) :
    ∃ x', forL (gN 7) b_law_L1 (rngD 0 ps.length) (ev 21 x0) = .ok (.nx, ev 21 x') ∧ nO (x' 7) = true ∧ nO (x' 13) = true ∧ (∀ j ∈ fixed, j ≠ 7 → x' j = x0 j) ∧ x' 5 = some (Sl.own false ((hitsAll ps bs).map hD)) := by
  have pre := all_len C hn hk
  obtain ⟨ρ', L, x', e, k7, k13, kf, k5⟩ := forL_all (g := gN 7) (b := b_law_L1) (fun done ρ => ∃ x', ρ = ev 21 x' ∧ nO (x' 7) = true ∧ nO (x' 13) = true ∧ (∀ j ∈ fixed, j ≠ 7 → x' j = x0 j) ∧ x' 5 = some (Sl.own false (((List.range done.length).flatMap (hitsPt ps bs)).map hD))) (ds := rngD 0 ps.length) (ρ := ev 21 x0)
    ⟨x0, rfl, h7, h13, fun _ _ _ => rfl, by simp [h5]⟩ (fun done d rest ρ eall ⟨x1, e, k7, k13, kf, k5⟩ => by
      subst e
      rw [rngD_0] at eall
      obtain ⟨hi, rfl⟩ := range_at eall
      have F1 : Fix ps bs (pt x1 7 (some (Sl.dat (.int (done.length : Nat))))) := F.of fun j hj h7 => by
        rw [pt_ne h7]
        exact kf j hj h7
      have pl := pre done.length (by omega)
      have kl := hk done.length hi
      obtain ⟨x2, g1, g2, g3, g4⟩ := point_go C hn hi (x0 := pt x1 7 (some (Sl.dat (.int (done.length : Nat))))) F1 (by simp) (hs := (List.range done.length).flatMap (hitsPt ps bs)) (by rw [pt_ne (by decide), k5]) (by rw [pt_ne (by decide)]; exact k13) (by omega)
      refine ⟨_, ev 21 x2, by simp, .inl g1, x2, rfl, by rw [g3 7 (by decide)]; simp, g2, fun j hj h7 => ?_, ?_⟩
      · rw [g3 j hj, pt_ne h7]
        exact kf j hj h7
      · rw [g4, List.length_append, List.length_singleton, List.range_succ, List.flatMap_append]
        simp)
  subst e
  rw [rngD_len] at k5
  exact ⟨x', L, k7, k13, kf, k5⟩
/-! ## two stands clash one with the other -/
theorem mem_all {q : Hit} : q ∈ hitsAll ps bs ↔ q.1.1 < ps.length ∧ q.1.2 ∈ (pAt ps q.1.1).ks ∧ q.1.2 ∈ opn ps bs q.1.1 ∧ q.2 ∈ namesHit ps bs q.1.1 (bx (pAt ps q.1.1) q.1.2) := by
  unfold hitsAll hitsPt
  rw [List.mem_flatMap]
  constructor
  · rintro ⟨i, hi, h⟩
    obtain ⟨s, hs, h⟩ := List.mem_flatMap.mp h
    unfold hitsOf at h
    split at h
    · rename_i ho
      obtain ⟨c, hc, rfl⟩ := List.mem_map.mp h
      exact ⟨List.mem_range.mp hi, hs, ho, hc⟩
    · cases h
  · rintro ⟨h1, h2, h3, h4⟩
    refine ⟨q.1.1, List.mem_range.mpr h1, List.mem_flatMap.mpr ⟨q.1.2, h2, ?_⟩⟩
    unfold hitsOf
    rw [if_pos h3]
    exact List.mem_map.mpr ⟨q.2, h4, rfl⟩
theorem swap_in {q : Hit} (h : q ∈ hitsAll ps bs) : (q.2, q.1) ∈ hitsAll ps bs := by
  obtain ⟨h1, h2, h3, h4⟩ := mem_all.mp h
  obtain ⟨g1, g2, g3, g4⟩ := mem_namesHit.mp h4
  refine mem_all.mpr ⟨g1, (List.mem_filter.mp g3).1, g3, mem_namesHit.mpr ⟨h1, fun e => g2 e.symm, h3, (clash_comm _ _).mp g4⟩⟩
theorem depth_nm (q : Nat × Int) : PyData.depth (nmD q) = 1 := by simp [nmD, PyData.depth, PyData.depthAll]
theorem eqv_nm (p q : Nat × Int) : PyData.eqv (nmD p) (nmD q) = decide (p = q) := by
  rw [Bool.eq_iff_iff]
  simp [nmD, PyData.eqv, PyData.eqvAll, Prod.ext_iff]
  omega
theorem eqv_h (p q : Hit) : PyData.eqv (hD p) (hD q) = decide (p = q) := by
  rw [Bool.eq_iff_iff]
  simp [hD, PyData.eqv, PyData.eqvAll, eqv_nm, Prod.ext_iff]
theorem any_h (p : Hit) (cs : List Hit) : (cs.map hD).any (fun y => PyData.eqv y (hD p)) = decide (p ∈ cs) := by
  induction cs with
  | nil => simp
  | cons q cs ih =>
    rw [List.map_cons, List.any_cons, ih, eqv_h]
    by_cases h : q = p
    · subst h
      simp
    · have h' : ¬ p = q := fun e => h e.symm
      simp [h, h']
theorem inD_h (p : Hit) (cs : List Hit) : inD true (hD p) (.list (cs.map hD)) = .ok (!decide (p ∈ cs)) := by
  unfold inD
  dsimp only
  rw [if_pos (decide_eq_true (by simp only [hD, PyData.depth, PyData.depthAll, depth_nm]; omega)), any_h]
  rfl
theorem chart_cf {points most bars room : Int} (hb : bars ≤ 1000) (hm : most ≤ 4) (h : ChartOk points most bars room ps bs) : CF ps bs ∧ ps.length ≤ 10 ∧ ∀ i, i < ps.length → (pAt ps i).ks.length ≤ 4 := by
  have mem : ∀ i, i < ps.length → pAt ps i ∈ ps := fun i hi => by unfold pAt; simp [hi]
  have mem2 : ∀ i, i < bs.length → bAt bs i ∈ bs := fun i hi => by unfold bAt; simp [hi]
  have k4 : ∀ i, i < ps.length → (pAt ps i).ks.length ≤ 4 := fun i hi => by
    have := (h.pts _ (mem i hi)).ks.l1
    omega
  refine ⟨⟨by have := h.n2; omega, by have := h.m1; omega, fun i hi => by have := k4 i hi; omega, fun i hi => ⟨(h.pts _ (mem i hi)).w0, (h.pts _ (mem i hi)).h0⟩, fun j hj => ⟨(h.bxs _ (mem2 j hj)).r0, (h.bxs _ (mem2 j hj)).t0⟩⟩, h.n2, k4⟩
theorem final_comp (hc : List Hit) (sw : ∀ q ∈ hc, (q.2, q.1) ∈ hc) (y : Nat → Option Sl) (y5 : y 5 = some (Sl.dat (.list (hc.map hD)))) : compL (gT (gsC (gN 20) (gsC (gN 13) gsN)) 2) (mCmp (inD true) (mTup (mCons (mVar 13) (mCons (mVar 20) mNil))) (mVar 5)) (mC (.int 1)) [20, 13] (hc.map hD) (ev 21 (pt (pt y 13 none) 20 none)) = .ok ([], ev 21 (pt (pt y 13 none) 20 none)) := by
  have c := comp2 (N := 21) (a := 20) (b := 13) (tt := mCmp (inD true) (mTup (mCons (mVar 13) (mCons (mVar 20) mNil))) (mVar 5)) (e := mC (.int 1)) (by omega) (by omega) (by omega) (fun q : Hit => nmD q.1) (fun q : Hit => nmD q.2) (fun q => !decide ((q.2, q.1) ∈ hc)) (fun _ => .int 1) (xs := hc) y (fun q _ => by
    have e : inD true (.tuple [nmD q.2, nmD q.1]) (.list (hc.map hD)) = .ok (!decide ((q.2, q.1) ∈ hc)) := inD_h (q.2, q.1) hc
    simp [ev_get, pt_ne, y5, e]) (fun _ _ _ => rfl)
  have e : hc.filter (fun q => !decide ((q.2, q.1) ∈ hc)) = [] := by
    rw [List.filter_eq_nil_iff]
    intro q hq
    simp [sw q hq]
  rw [e] at c
  exact c
theorem L0_go {x : Nat → Option Sl} {zs : List D} (h1 : x 1 = some (Sl.own false zs)) (B : Bg zs) (h7 : nO (x 7) = true) (h13 : nO (x 13) = true) (hf : ∀ j, 15 ≤ j → j ≤ 20 → nO (x j) = true) :
    ∃ x' zs', b_law_L0 (ev 21 x) = .ok (.nx, ev 21 x') ∧ Bg zs' ∧ x' 1 = some (Sl.own false zs') ∧ nO (x' 7) = true ∧ nO (x' 13) = true ∧ ∀ j, 15 ≤ j → j ≤ 20 → nO (x' j) = true := by
  obtain ⟨ps, bs, zs1, t1, B1, ok⟩ := chart_go B (points := 4) (most := 4) (bars := 2) (room := 12) (by omega) (by omega) (by omega) (by omega) (by omega) (by omega) (by omega) (by omega)
  obtain ⟨C, hn, hk⟩ := chart_cf (by omega) (by omega) ok
  let x0 := pt (pt (pt (pt (pt x 1 (some (Sl.own false zs1))) 3 (some (Sl.dat (chartD ps bs)))) 5 (some (Sl.own false []))) 4 (some (Sl.dat (.list (rngD 0 ps.length))))) 6 (some (Sl.dat (.list (openedL ps bs))))
  have F : Fix ps bs x0 := ⟨by simp [x0, pt_ne], by simp [x0, pt_ne], by simp [x0, pt_ne], by simp [x0, pt_ne, hf 15], by simp [x0, pt_ne, hf 16], by simp [x0, pt_ne, hf 17], by simp [x0, pt_ne, hf 18], by simp [x0, pt_ne, hf 19]⟩
  obtain ⟨x', L, k7, k13, kf, k5⟩ := points_loop C hn hk (x0 := x0) F (by simp [x0, pt_ne]) (by simp [x0, pt_ne, h7]) (by simp [x0, pt_ne, h13])
  have c1 : ∀ y : Nat → Option Sl, y 3 = some (Sl.dat (chartD ps bs)) → compL (gN 7) (mC (.bool true)) (mV tupS (mView (mCall 2 p__law_open (mCons (mVar 3) (mCons (mVar 7) mNil))))) [7] (rngD 0 ps.length) (ev 21 (pt y 7 none)) = .ok (openedL ps bs, ev 21 (pt y 7 none)) := fun y y3 => by
    rw [rngD_0]
    have := comp1 (N := 21) (a := 7) (tt := mC (.bool true)) (e := mV tupS (mView (mCall 2 p__law_open (mCons (mVar 3) (mCons (mVar 7) mNil))))) (by omega) (fun (j : Nat) => .int (j : Int)) (fun _ => true) (fun j => .tuple ((opn ps bs j).map .int)) (xs := List.range ps.length) y (fun _ _ => rfl) fun j hj _ => by simp [ev_get, pt_ne, y3, law_open_go C (List.mem_range.mp hj)]
    rw [this, List.filter_eq_self.mpr (fun _ _ => rfl)]
    rfl
  have c2 : ∀ y : Nat → Option Sl, y 3 = some (Sl.dat (chartD ps bs)) → compL (gN 7) (mC (.bool true)) (mCall 2 p_open_stands (mCons (mVar 3) (mCons (mVar 7) mNil))) [7] (rngD 0 ps.length) (ev 21 (pt y 7 none)) = .ok (openedL ps bs, ev 21 (pt y 7 none)) := fun y y3 => by
    rw [rngD_0]
    have := comp1 (N := 21) (a := 7) (tt := mC (.bool true)) (e := mCall 2 p_open_stands (mCons (mVar 3) (mCons (mVar 7) mNil))) (by omega) (fun (j : Nat) => .int (j : Int)) (fun _ => true) (fun j => .tuple ((opn ps bs j).map .int)) (xs := List.range ps.length) y (fun _ _ => rfl) fun j hj _ => by simp [ev_get, pt_ne, y3, open_stands_go C (List.mem_range.mp hj)]
    rw [this, List.filter_eq_self.mpr (fun _ _ => rfl)]
    rfl
  have ao := all_open_go C
  change p_all_open [chartD ps bs] = .ok (.tuple (openedL ps bs)) at ao
  have al : p__law_alike [.list [.tuple (openedL ps bs), .list (openedL ps bs)], .list [.tuple (openedL ps bs), .list (openedL ps bs)]] = .ok (.bool true) := by
    have q : szL (openedL ps bs) ≤ 10 * 1001 := by
      have key : ∀ l : List Nat, (∀ j ∈ l, j < ps.length) → szL (l.map fun j => PyData.tuple ((opn ps bs j).map .int)) ≤ l.length * 1001 := by
        intro l
        induction l with
        | nil => intro _; simp [szL]
        | cons j l ih =>
          intro hj
          have := ih fun k hk => hj k (List.mem_cons_of_mem _ hk)
          have q1 := szL_map PyData.int 1 (fun _ => by simp [sz]) (opn ps bs j)
          have q2 := opn_len C (hj j List.mem_cons_self)
          simp only [List.map_cons, szL, sz, List.length_cons, Nat.succ_mul]
          omega
      have := key (List.range ps.length) fun j hj => List.mem_range.mp hj
      rw [List.length_range] at this
      have h2 : ps.length * 1001 ≤ 10 * 1001 := Nat.mul_le_mul hn (Nat.le_refl _)
      unfold openedL
      omega
    have o : okL (openedL ps bs) = true := by
      unfold openedL
      exact okL_map _ (fun j => by simp only [okD]; exact okL_map _ (fun _ => rfl) _) _
    exact alike_go (by simp [okD, okL, o]) (by simp only [sz, szL]; omega)
  have rl : (rngD 0 ps.length).length ≤ lim := by rw [rngD_len]; exact le_lim C.n
  have fc := final_comp (hitsAll ps bs) (fun q hq => swap_in hq)
  have hal : (hitsAll ps bs).length ≤ lim := by
    have := all_len C hn hk ps.length (Nat.le_refl _)
    show _ ≤ 1000000
    unfold hitsAll
    omega
  have kx : ∀ j, 15 ≤ j → j ≤ 20 → nO (x' j) = true := fun j h15 h20 => by
    rw [kf j (by simp only [fixed, List.mem_cons, List.not_mem_nil, or_false]; omega) (by omega)]
    show nO (pt (pt (pt (pt (pt x 1 _) 3 _) 5 _) 4 _) 6 _ j) = true
    rw [pt_ne (by omega), pt_ne (by omega), pt_ne (by omega), pt_ne (by omega), pt_ne (by omega)]
    exact hf j h15 h20
  have x'1 : x' 1 = some (Sl.own false zs1) := by rw [kf 1 (by decide) (by decide)]; simp [x0, pt_ne]
  simp only [x0] at L
  refine ⟨_, zs1, by
    unfold b_law_L0
    simp [-kComp2_ap, kComp2_one, kComp2_two, ev_get, pt_ne, h1, t1, chart_0, rng1_nat C.n, rl, h7, noOwn_cons, c1, c2, ao, al, L, k5, hal, k13, kx 20, fc, neD_nil]
    rfl, B1, by simp [pt_ne, x'1], by simp [pt_ne, k7], by simp [pt_ne, k13], fun j h15 h20 => ?_⟩
  rw [pt_ne (by omega)]
  exact kx j h15 h20
theorem law_go (ns : List Int) : p_law [.list (ns.map .int)] = .ok (.bool true) := by
  obtain ⟨zs, b1, B⟩ := bag_go (ns := ns)
  have st : ∀ i : Nat, 2 ≤ i → st0 [.list (ns.map .int)] i = none := fun i h => by
    unfold st0
    rw [List.getElem?_eq_none (by simp; omega)]
    rfl
  obtain ⟨ρ', L, x', zs', e, _⟩ := forL_all (g := gN 2) (b := b_law_L0) (fun done ρ => ∃ x' zs', ρ = ev 21 x' ∧ Bg zs' ∧ x' 1 = some (Sl.own false zs') ∧ nO (x' 7) = true ∧ nO (x' 13) = true ∧ ∀ j, 15 ≤ j → j ≤ 20 → nO (x' j) = true) (ds := rngD 0 8) (ρ := ev 21 (pt (st0 [.list (ns.map .int)]) 1 (some (Sl.own false zs))))
    ⟨_, zs, rfl, B, by simp, by rw [pt_ne (by decide), st 7 (by decide)]; rfl, by rw [pt_ne (by decide), st 13 (by decide)]; rfl, fun j h _ => by rw [pt_ne (by omega), st j (by omega)]; rfl⟩ (fun done d rest ρ _ ⟨x1, zs1, e, B1, e1, e7, e13, ej⟩ => by
      subst e
      obtain ⟨x2, zs2, g1, g2, g3, g7, g13, gj⟩ := L0_go (x := pt x1 2 (some (Sl.dat d))) (zs := zs1) (by simp [pt_ne]; exact e1) B1 (by simp [pt_ne, e7]) (by simp [pt_ne, e13]) (fun j h15 h20 => by rw [pt_ne (by omega)]; exact ej j h15 h20)
      exact ⟨ev 21 (pt x1 2 (some (Sl.dat d))), ev 21 x2, by simp, .inl g1, x2, zs2, rfl, g2, g3, g7, g13, gj⟩)
  have r8 : rng1 (.int 8) = .ok (rngD 0 8) := rfl
  unfold p_law fnP b_law
  rw [fnStart_st (by simp)]
  have s0 : st0 [.list (ns.map .int)] 0 = some (Sl.dat (.list (ns.map .int))) := rfl
  simp [ev_get, s0, b1, r8, L]
end
end L2.DL.k07

namespace L2.DL.k07
open PySem PySem.Spec PyProof.Rows L2.DL.Cm
def top (i : Nat) : Stmt := PySem.Challenge.pw_namesfit_k07_open_stands_and_what_they_h.main.body.getD i (.Pass ⟨0, 0, 0, 0⟩)
structure Nb (mg : Str → Option Value) : Prop where
  len : mg "len" = none
  abs : mg "abs" = none
  int : mg "int" = none
  max : mg "max" = none
  min : mg "min" = none
  tuple : mg "tuple" = none
  list : mg "list" = none
  sorted : mg "sorted" = none
  isinstance : mg "isinstance" = none
  range : mg "range" = none
  enumerate : mg "enumerate" = none
  zip : mg "zip" = none
  str : mg "str" = none
  bool : mg "bool" = none
theorem sc__law_bag : FnScope [("script" : Str), ("cell" : Str)] [("script" : Str)] (defScope (top 16)) := ⟨rfl, rfl, rfl, by decide +kernel, rfl, by decide +kernel, by decide +kernel⟩
theorem h__law_bag {P : Program} {w : World} {K : PySem.W.Frag} {mg : Str → Option Value} {base : Heap} {fa : Addr} {fd : FuncData} (nb : Nb mg) (F : Fun K ("_law_bag" : Str) ("_law_bag" : Str) (top 16) fa fd) :
    FnOk P w K mg base CX0 1 fa fd [("script" : Str)] (spL K 1 p__law_bag) :=
  ok_fnL (k := 0) (N := [("script" : Str), ("cell" : Str)]) F sc__law_bag rfl rfl fun cdv A outer s H E hr => by
    have hu : (A.deeper (envOfC ("_law_bag" : Str) (defScope (top 16)) s.heap.objs.size fa cdv)).units + 64 < cLine := by have := hr.un; omega
    exact (dl_lst (da_cons de_int (da_cons de_int (da_cons de_int (da_cons (de_ofL (dl_lc (own := [(("cell" : Str), 1)]) rfl sc__law_bag.nd (di_seq (de_slice (de_var 0) do_none (do_some de_int))) (blkOk_by (by kernel_rfl)) (fun _ _ _ _ _ => (dg_name 1 sc__law_bag.nd (by decide))) (fun _ _ _ _ _ => dp_nil) (fun _ _ _ _ _ => (de_callBd cd_abs bt_abs nb.abs (da_cons (de_var 1) da_nil))))) da_nil)))))
theorem sc__law_take : FnScope [("bag" : Str), ("many" : Str), ("cell" : Str), ("stirred" : Str), ("value" : Str), ("begin" : Str), ("second" : Str)] [("bag" : Str), ("many" : Str)] (defScope (top 17)) := ⟨rfl, rfl, rfl, by decide +kernel, rfl, by decide +kernel, by decide +kernel⟩
theorem h__law_take {P : Program} {w : World} {K : PySem.W.Frag} {mg : Str → Option Value} {base : Heap} {fa : Addr} {fd : FuncData} (nb : Nb mg) (F : Fun K ("_law_take" : Str) ("_law_take" : Str) (top 17) fa fd) :
    FnOk P w K mg base CX0 1 fa fd [("bag" : Str), ("many" : Str)] (spB K 2 p__law_take) :=
  ok_fnB (k := 0) (N := [("bag" : Str), ("many" : Str), ("cell" : Str), ("stirred" : Str), ("value" : Str), ("begin" : Str), ("second" : Str)]) F sc__law_take rfl fun cdv A outer s H E hr => by
    have hu : (A.deeper (envOfC ("_law_take" : Str) (defScope (top 17)) s.heap.objs.size fa cdv)).units + 64 < cLine := by have := hr.un; omega
    exact (dss_cons (ds_if (dt_cmp (ob_eq hu) (de_ixOwn 0 de_int) de_int) (dss_cons (ds_set 2 sc__law_take.nd (de_ix (de_op od_add (de_slice (de_ixOwn 0 de_int) (do_some (de_ixOwn 0 de_int)) do_none) (de_ofL (dl_lst (da_cons de_int da_nil)))) de_int)) (dss_cons (ds_augS 0 oi_add de_int de_int) (dss_cons (ds_if (dt_cmp (ob_ge hu) (de_var 2) (de_op od_pow de_int de_int)) (dss_one (ds_store 0 (de_var 2) de_int)) dss_nil) (dss_cons (ds_set 3 sc__law_take.nd (de_op od_add (de_op od_add (de_op od_mul (de_ixOwn 0 de_int) de_int) (de_op od_mod (de_callTd cd_int bt_int nb.int (da_cons (de_var 2) da_nil)) de_int)) (de_op od_mul de_int (de_ixOwn 0 de_int)))) (dss_one (ds_store 0 (de_op od_mod (de_callTd cd_int bt_int nb.int (da_cons (de_var 3) da_nil)) de_int) de_int)))))) dss_nil) (dss_cons (ds_if (dt_cmp (ob_gt hu) (de_ixOwn 0 de_int) de_int) (dss_cons (ds_set 4 sc__law_take.nd (de_op od_mod (de_callTd cd_int bt_int nb.int (da_cons (de_ixOwn 0 de_int) da_nil)) (de_var 1))) (dss_cons (ds_store 0 (de_op od_fdiv (de_callTd cd_int bt_int nb.int (da_cons (de_ixOwn 0 de_int) da_nil)) (de_var 1)) de_int) (dss_one (ds_ret (de_var 4))))) dss_nil) (dss_cons (ds_set 5 sc__law_take.nd (de_op od_mod (de_callTd cd_int bt_int nb.int (da_cons (de_op od_mul (de_op od_add (de_ixOwn 0 de_int) de_int) de_int) da_nil)) de_int)) (dss_cons (ds_set 6 sc__law_take.nd (de_op od_mod (de_callTd cd_int bt_int nb.int (da_cons (de_op od_mul (de_op od_mod (de_callTd cd_int bt_int nb.int (da_cons (de_op od_mul (de_var 5) (de_var 5)) da_nil)) de_int) de_int) da_nil)) de_int)) (dss_one (ds_ret (de_op od_mod (de_callTd cd_int bt_int nb.int (da_cons (de_op od_fdiv (de_var 6) de_int) da_nil)) (de_var 1))))))))
theorem sc__law_mixed : FnScope [("bag" : Str), ("things" : Str), ("left" : Str), ("found" : Str)] [("bag" : Str), ("things" : Str)] (defScope (top 18)) := ⟨rfl, rfl, rfl, by decide +kernel, rfl, by decide +kernel, by decide +kernel⟩
theorem h__law_mixed {P : Program} {w : World} {K : PySem.W.Frag} {mg : Str → Option Value} {base : Heap} {fa : Addr} {fd : FuncData} (nb : Nb mg) (F : Fun K ("_law_mixed" : Str) ("_law_mixed" : Str) (top 18) fa fd) (H__law_take : Has P w K mg base 1 ("_law_take" : Str) (spB K 2 p__law_take)) :
    FnOk P w K mg base CX0 2 fa fd [("bag" : Str), ("things" : Str)] (spB K 2 p__law_mixed) :=
  ok_fnB (k := 1) (N := [("bag" : Str), ("things" : Str), ("left" : Str), ("found" : Str)]) F sc__law_mixed rfl fun cdv A outer s H E hr => by
    have hu : (A.deeper (envOfC ("_law_mixed" : Str) (defScope (top 18)) s.heap.objs.size fa cdv)).units + 64 < cLine := by have := hr.un; omega
    exact (dss_cons (ds_par 2 3 (k1 := (.o (mVL lstS (mView (mVar 1))))) (k2 := (.o (mLst mNil))) rfl sc__law_mixed.nd (dl_callTv cd_list bt_list nb.list (dv_of (de_var 1))) (dl_lst da_nil)) (dss_cons (ds_while PassesOwn.never (dt_cmpO 2 (ob_ne hu) (de_ofL (dl_lst da_nil))) (dss_one (ds_append 3 (de_popAt 2 (de_callB (H__law_take.mono (by decide)) hr 0 (da_cons (de_callBv cd_len bt_len nb.len (dv_own 2)) da_nil)))))) (dss_frz 3 (dss_one (ds_ret (de_var 3))))))
theorem sc__law_names : FnScope [("bag" : Str), ("many" : Str)] [("bag" : Str), ("many" : Str)] (defScope (top 26)) := ⟨rfl, rfl, rfl, by decide +kernel, rfl, by decide +kernel, by decide +kernel⟩
theorem h__law_names {P : Program} {w : World} {K : PySem.W.Frag} {mg : Str → Option Value} {base : Heap} {fa : Addr} {fd : FuncData} (nb : Nb mg) (F : Fun K ("_law_names" : Str) ("_law_names" : Str) (top 26) fa fd) (H__law_mixed : Has P w K mg base 2 ("_law_mixed" : Str) (spB K 2 p__law_mixed)) :
    FnOk P w K mg base CX0 3 fa fd [("bag" : Str), ("many" : Str)] (spB K 2 p__law_names) :=
  ok_fnB (k := 2) (N := [("bag" : Str), ("many" : Str)]) F sc__law_names rfl fun cdv A outer s H E hr => by
    have hu : (A.deeper (envOfC ("_law_names" : Str) (defScope (top 26)) s.heap.objs.size fa cdv)).units + 64 < cLine := by have := hr.un; omega
    exact (dss_one (ds_ret (de_slice (de_callB (H__law_mixed.mono (by decide)) hr 0 (da_cons (de_ofL (dl_lst (da_cons de_str (da_cons de_str (da_cons de_str (da_cons de_str (da_cons de_str (da_cons de_str (da_cons de_str (da_cons de_str (da_cons de_str (da_cons de_str da_nil)))))))))))) da_nil)) do_none (do_some (de_var 1)))))
theorem sc__law_stands : FnScope [("bag" : Str), ("most" : Str)] [("bag" : Str), ("most" : Str)] (defScope (top 27)) := ⟨rfl, rfl, rfl, by decide +kernel, rfl, by decide +kernel, by decide +kernel⟩
theorem h__law_stands {P : Program} {w : World} {K : PySem.W.Frag} {mg : Str → Option Value} {base : Heap} {fa : Addr} {fd : FuncData} (nb : Nb mg) (F : Fun K ("_law_stands" : Str) ("_law_stands" : Str) (top 27) fa fd) (H__law_take : Has P w K mg base 1 ("_law_take" : Str) (spB K 2 p__law_take)) (H__law_mixed : Has P w K mg base 2 ("_law_mixed" : Str) (spB K 2 p__law_mixed)) :
    FnOk P w K mg base CX0 3 fa fd [("bag" : Str), ("most" : Str)] (spB K 2 p__law_stands) :=
  ok_fnB (k := 2) (N := [("bag" : Str), ("most" : Str)]) F sc__law_stands rfl fun cdv A outer s H E hr => by
    have hu : (A.deeper (envOfC ("_law_stands" : Str) (defScope (top 27)) s.heap.objs.size fa cdv)).units + 64 < cLine := by have := hr.un; omega
    exact (dss_one (ds_ret (de_callTv cd_tuple bt_tuple nb.tuple (dv_of (de_ofL (dl_callBv (cd_sorted hu) bt_sorted nb.sorted (dv_of (de_slice (de_callB (H__law_mixed.mono (by decide)) hr 0 (da_cons (de_ofL (dl_lst (da_cons de_int (da_cons de_int (da_cons de_int (da_cons de_int da_nil)))))) da_nil)) do_none (do_some (de_op od_add de_int (de_callB (H__law_take.mono (by decide)) hr 0 (da_cons (de_var 1) da_nil))))))))))))
theorem sc__law_chart : FnScope [("bag" : Str), ("points" : Str), ("most" : Str), ("bars" : Str), ("room" : Str), ("found" : Str), ("boxes" : Str), ("name" : Str), ("x" : Str), ("y" : Str), ("width" : Str), ("bar" : Str), ("left" : Str), ("low" : Str), ("right" : Str)] [("bag" : Str), ("points" : Str), ("most" : Str), ("bars" : Str), ("room" : Str)] (defScope (top 28)) := ⟨rfl, rfl, rfl, by decide +kernel, rfl, by decide +kernel, by decide +kernel⟩
theorem h__law_chart {P : Program} {w : World} {K : PySem.W.Frag} {mg : Str → Option Value} {base : Heap} {fa : Addr} {fd : FuncData} (nb : Nb mg) (F : Fun K ("_law_chart" : Str) ("_law_chart" : Str) (top 28) fa fd) (H__law_take : Has P w K mg base 1 ("_law_take" : Str) (spB K 2 p__law_take)) (H__law_names : Has P w K mg base 3 ("_law_names" : Str) (spB K 2 p__law_names)) (H__law_stands : Has P w K mg base 3 ("_law_stands" : Str) (spB K 2 p__law_stands)) :
    FnOk P w K mg base CX0 4 fa fd [("bag" : Str), ("points" : Str), ("most" : Str), ("bars" : Str), ("room" : Str)] (spB K 5 p__law_chart) :=
  ok_fnB (k := 3) (N := [("bag" : Str), ("points" : Str), ("most" : Str), ("bars" : Str), ("room" : Str), ("found" : Str), ("boxes" : Str), ("name" : Str), ("x" : Str), ("y" : Str), ("width" : Str), ("bar" : Str), ("left" : Str), ("low" : Str), ("right" : Str)]) F sc__law_chart rfl fun cdv A outer s H E hr => by
    have hu : (A.deeper (envOfC ("_law_chart" : Str) (defScope (top 28)) s.heap.objs.size fa cdv)).units + 64 < cLine := by have := hr.un; omega
    exact (dss_cons (ds_par 5 6 (k1 := (.o (mLst mNil))) (k2 := (.o (mLst mNil))) rfl sc__law_chart.nd (dl_lst da_nil) (dl_lst da_nil)) (dss_cons (ds_for (ix := [7]) PassesOwn.never rfl (di_seq (de_callB (H__law_names.mono (by decide)) hr 0 (da_cons (de_op od_add de_int (de_callB (H__law_take.mono (by decide)) hr 0 (da_cons (de_var 1) da_nil))) da_nil))) (dg_name 7 sc__law_chart.nd (by decide)) (dss_cons (ds_par 8 9 (k1 := (.d (mCallB 2 p__law_take 0 (mCons (mVar 4) mNil)))) (k2 := (.d (mCallB 2 p__law_take 0 (mCons (mVar 4) mNil)))) rfl sc__law_chart.nd (de_callB (H__law_take.mono (by decide)) hr 0 (da_cons (de_var 4) da_nil)) (de_callB (H__law_take.mono (by decide)) hr 0 (da_cons (de_var 4) da_nil))) (dss_cons (ds_set 10 sc__law_chart.nd (de_op od_add de_int (de_callB (H__law_take.mono (by decide)) hr 0 (da_cons de_int da_nil)))) (dss_one (ds_append 5 (de_tup (da_cons (de_var 7) (da_cons (de_var 8) (da_cons (de_var 9) (da_cons (de_var 10) (da_cons (de_op od_add de_int (de_callB (H__law_take.mono (by decide)) hr 0 (da_cons de_int da_nil))) (da_cons (de_callB (H__law_stands.mono (by decide)) hr 0 (da_cons (de_var 2) da_nil)) da_nil)))))))))))) (dss_cons (ds_for (ix := [11]) PassesOwn.never rfl (di_range1 nb.range (de_callB (H__law_take.mono (by decide)) hr 0 (da_cons (de_op od_add (de_var 3) de_int) da_nil))) (dg_name 11 sc__law_chart.nd (by decide)) (dss_cons (ds_par 12 13 (k1 := (.d (mOp subD (mCallB 2 p__law_take 0 (mCons (mVar 4) mNil)) (mC (.int 2))))) (k2 := (.d (mOp subD (mCallB 2 p__law_take 0 (mCons (mVar 4) mNil)) (mC (.int 2))))) rfl sc__law_chart.nd (de_op od_sub (de_callB (H__law_take.mono (by decide)) hr 0 (da_cons (de_var 4) da_nil)) de_int) (de_op od_sub (de_callB (H__law_take.mono (by decide)) hr 0 (da_cons (de_var 4) da_nil)) de_int)) (dss_cons (ds_set 14 sc__law_chart.nd (de_op od_add (de_op od_add (de_var 12) de_int) (de_callB (H__law_take.mono (by decide)) hr 0 (da_cons de_int da_nil)))) (dss_one (ds_append 6 (de_tup (da_cons (de_var 12) (da_cons (de_var 13) (da_cons (de_var 14) (da_cons (de_op od_add (de_op od_add (de_var 13) de_int) (de_callB (H__law_take.mono (by decide)) hr 0 (da_cons de_int da_nil))) da_nil)))))))))) (dss_one (ds_ret (de_tup (da_cons (de_callTv cd_tuple bt_tuple nb.tuple (dv_own 5)) (da_cons (de_callTv cd_tuple bt_tuple nb.tuple (dv_own 6)) da_nil))))))))
theorem sc__law_alike : FnScope [("found" : Str), ("due" : Str), ("pairs" : Str), ("at" : Str), ("one" : Str), ("other" : Str)] [("found" : Str), ("due" : Str)] (defScope (top 19)) := ⟨rfl, rfl, rfl, by decide +kernel, rfl, by decide +kernel, by decide +kernel⟩
theorem h__law_alike {P : Program} {w : World} {K : PySem.W.Frag} {mg : Str → Option Value} {base : Heap} {fa : Addr} {fd : FuncData} (nb : Nb mg) (F : Fun K ("_law_alike" : Str) ("_law_alike" : Str) (top 19) fa fd) :
    FnOk P w K mg base CX0 1 fa fd [("found" : Str), ("due" : Str)] (spP K 2 p__law_alike) :=
  ok_fnP (k := 0) (N := [("found" : Str), ("due" : Str), ("pairs" : Str), ("at" : Str), ("one" : Str), ("other" : Str)]) F sc__law_alike rfl fun cdv A outer s H E hr => by
    have hu : (A.deeper (envOfC ("_law_alike" : Str) (defScope (top 19)) s.heap.objs.size fa cdv)).units + 64 < cLine := by have := hr.un; omega
    exact (dss_cons (ds_par 2 3 (k1 := (.o (mLst (mCons (mTup (mCons (mVar 0) (mCons (mVar 1) mNil))) mNil)))) (k2 := (.d (mC (.int 0)))) rfl sc__law_alike.nd (dl_lst (da_cons (de_tup (da_cons (de_var 0) (da_cons (de_var 1) da_nil))) da_nil)) de_int) (dss_cons (ds_while PassesOwn.never (dt_cmp (ob_lt hu) (de_var 3) (de_callBv cd_len bt_len nb.len (dv_own 2))) (dss_cons (ds_asg (ix := [4, 5]) (de_ixOwn 2 (de_var 3)) (dg_tup rfl (dgs_cons (dg_name 4 sc__law_alike.nd (by decide)) (dgs_cons (dg_name 5 sc__law_alike.nd (by decide)) dgs_nil)))) (dss_cons (ds_aug 3 sc__law_alike.nd oi_add de_int) (dss_cons (ds_if (PW.pt (dw_or (dt_cmp (ob_ne hu) (de_isi .bool nb.isinstance nb.bool (de_var 4)) (de_isi .bool nb.isinstance nb.bool (de_var 5))) (dw_or1 (dt_cmp (ob_ne hu) (de_isi .str nb.isinstance nb.str (de_var 4)) (de_isi .str nb.isinstance nb.str (de_var 5)))))) (dss_one (ds_ret de_bl)) dss_nil) (dss_cons (ds_if (dt_cmp (ob_ne hu) (de_isiT2 .tuple .list nb.isinstance nb.tuple nb.list (de_var 4)) (de_isiT2 .tuple .list nb.isinstance nb.tuple nb.list (de_var 5))) (dss_one (ds_ret de_bl)) dss_nil) (dss_one (ds_if (dt_val (de_isiT2 .tuple .list nb.isinstance nb.tuple nb.list (de_var 4))) (dss_cons (ds_if (PW.pt (dw_or (dt_cmp (ob_ne hu) (de_isi .tuple nb.isinstance nb.tuple (de_var 4)) (de_isi .tuple nb.isinstance nb.tuple (de_var 5))) (dw_or1 (dt_cmp (ob_ne hu) (de_callBv cd_len bt_len nb.len (dv_of (de_var 4))) (de_callBv cd_len bt_len nb.len (dv_of (de_var 5))))))) (dss_one (ds_ret de_bl)) dss_nil) (dss_one (ds_extend 2 (dl_listZip rfl nb.zip nb.list (de_var 4) (de_var 5))))) (dss_one (ds_if (dt_cmp (ob_ne hu) (de_var 4) (de_var 5)) (dss_one (ds_ret de_bl)) dss_nil))))))))) (dss_one (ds_ret de_bl))))
theorem sc__law_box : FnScope [("chart" : Str), ("point" : Str), ("stand" : Str), ("name" : Str), ("x" : Str), ("y" : Str), ("width" : Str), ("height" : Str), ("stands" : Str), ("left" : Str), ("low" : Str)] [("chart" : Str), ("point" : Str), ("stand" : Str)] (defScope (top 20)) := ⟨rfl, rfl, rfl, by decide +kernel, rfl, by decide +kernel, by decide +kernel⟩
theorem h__law_box {P : Program} {w : World} {K : PySem.W.Frag} {mg : Str → Option Value} {base : Heap} {fa : Addr} {fd : FuncData} (nb : Nb mg) (F : Fun K ("_law_box" : Str) ("_law_box" : Str) (top 20) fa fd) :
    FnOk P w K mg base CX0 1 fa fd [("chart" : Str), ("point" : Str), ("stand" : Str)] (spP K 3 p__law_box) :=
  ok_fnP (k := 0) (N := [("chart" : Str), ("point" : Str), ("stand" : Str), ("name" : Str), ("x" : Str), ("y" : Str), ("width" : Str), ("height" : Str), ("stands" : Str), ("left" : Str), ("low" : Str)]) F sc__law_box rfl fun cdv A outer s H E hr => by
    have hu : (A.deeper (envOfC ("_law_box" : Str) (defScope (top 20)) s.heap.objs.size fa cdv)).units + 64 < cLine := by have := hr.un; omega
    exact (dss_cons (ds_asg (ix := [3, 4, 5, 6, 7, 8]) (de_ix (de_ix (de_var 0) de_int) (de_var 1)) (dg_tup rfl (dgs_cons (dg_name 3 sc__law_box.nd (by decide)) (dgs_cons (dg_name 4 sc__law_box.nd (by decide)) (dgs_cons (dg_name 5 sc__law_box.nd (by decide)) (dgs_cons (dg_name 6 sc__law_box.nd (by decide)) (dgs_cons (dg_name 7 sc__law_box.nd (by decide)) (dgs_cons (dg_name 8 sc__law_box.nd (by decide)) dgs_nil)))))))) (dss_cons (ds_set 9 sc__law_box.nd (de_if (dt_cmp (ob_in hu) (de_var 2) (de_tup (da_cons de_int (da_cons de_int da_nil)))) (de_var 4) (de_op od_sub (de_var 4) (de_var 6)))) (dss_cons (ds_set 10 sc__law_box.nd (de_if (dt_cmp (ob_in hu) (de_var 2) (de_tup (da_cons de_int (da_cons de_int da_nil)))) (de_var 5) (de_op od_sub (de_var 5) (de_var 7)))) (dss_one (ds_ret (de_tup (da_cons (de_var 9) (da_cons (de_var 10) (da_cons (de_op od_add (de_var 9) (de_var 6)) (da_cons (de_op od_add (de_var 10) (de_var 7)) da_nil))))))))))
theorem sc__law_meet : FnScope [("one" : Str), ("other" : Str), ("wide" : Str)] [("one" : Str), ("other" : Str)] (defScope (top 21)) := ⟨rfl, rfl, rfl, by decide +kernel, rfl, by decide +kernel, by decide +kernel⟩
theorem h__law_meet {P : Program} {w : World} {K : PySem.W.Frag} {mg : Str → Option Value} {base : Heap} {fa : Addr} {fd : FuncData} (nb : Nb mg) (F : Fun K ("_law_meet" : Str) ("_law_meet" : Str) (top 21) fa fd) :
    FnOk P w K mg base CX0 1 fa fd [("one" : Str), ("other" : Str)] (spP K 2 p__law_meet) :=
  ok_fnP (k := 0) (N := [("one" : Str), ("other" : Str), ("wide" : Str)]) F sc__law_meet rfl fun cdv A outer s H E hr => by
    have hu : (A.deeper (envOfC ("_law_meet" : Str) (defScope (top 21)) s.heap.objs.size fa cdv)).units + 64 < cLine := by have := hr.un; omega
    exact (dss_cons (ds_set 2 sc__law_meet.nd (de_op od_sub (de_callBd (cd_min2 rfl) bt_min nb.min (da_cons (de_ix (de_var 0) de_int) (da_cons (de_ix (de_var 1) de_int) da_nil))) (de_callBd (cd_max2 rfl) bt_max nb.max (da_cons (de_ix (de_var 0) de_int) (da_cons (de_ix (de_var 1) de_int) da_nil))))) (dss_one (ds_ret (de_and (de_cmp (ob_gt hu) (de_var 2) de_int) (de_one (de_cmp (ob_gt hu) (de_op od_sub (de_callBd (cd_min2 rfl) bt_min nb.min (da_cons (de_ix (de_var 0) de_int) (da_cons (de_ix (de_var 1) de_int) da_nil))) (de_callBd (cd_max2 rfl) bt_max nb.max (da_cons (de_ix (de_var 0) de_int) (da_cons (de_ix (de_var 1) de_int) da_nil)))) de_int))))))
theorem sc__law_covers : FnScope [("box" : Str), ("x" : Str), ("y" : Str)] [("box" : Str), ("x" : Str), ("y" : Str)] (defScope (top 22)) := ⟨rfl, rfl, rfl, by decide +kernel, rfl, by decide +kernel, by decide +kernel⟩
theorem h__law_covers {P : Program} {w : World} {K : PySem.W.Frag} {mg : Str → Option Value} {base : Heap} {fa : Addr} {fd : FuncData} (nb : Nb mg) (F : Fun K ("_law_covers" : Str) ("_law_covers" : Str) (top 22) fa fd) :
    FnOk P w K mg base CX0 1 fa fd [("box" : Str), ("x" : Str), ("y" : Str)] (spP K 3 p__law_covers) :=
  ok_fnP (k := 0) (N := [("box" : Str), ("x" : Str), ("y" : Str)]) F sc__law_covers rfl fun cdv A outer s H E hr => by
    have hu : (A.deeper (envOfC ("_law_covers" : Str) (defScope (top 22)) s.heap.objs.size fa cdv)).units + 64 < cLine := by have := hr.un; omega
    exact (dss_one (ds_ret (de_and (de_chain (ob_lt hu) (ob_lt hu) (de_ix (de_var 0) de_int) (de_var 1) (de_ix (de_var 0) de_int)) (de_one (de_chain (ob_lt hu) (ob_lt hu) (de_ix (de_var 0) de_int) (de_var 2) (de_ix (de_var 0) de_int))))))
theorem sc__law_is_open : FnScope [("chart" : Str), ("point" : Str), ("stand" : Str), ("box" : Str), ("bar" : Str), ("at" : Str), ("row" : Str)] [("chart" : Str), ("point" : Str), ("stand" : Str)] (defScope (top 23)) := ⟨rfl, rfl, rfl, by decide +kernel, rfl, by decide +kernel, by decide +kernel⟩
theorem h__law_is_open {P : Program} {w : World} {K : PySem.W.Frag} {mg : Str → Option Value} {base : Heap} {fa : Addr} {fd : FuncData} (nb : Nb mg) (F : Fun K ("_law_is_open" : Str) ("_law_is_open" : Str) (top 23) fa fd) (H__law_box : Has P w K mg base 1 ("_law_box" : Str) (spP K 3 p__law_box)) (H__law_meet : Has P w K mg base 1 ("_law_meet" : Str) (spP K 2 p__law_meet)) (H__law_covers : Has P w K mg base 1 ("_law_covers" : Str) (spP K 3 p__law_covers)) :
    FnOk P w K mg base CX0 2 fa fd [("chart" : Str), ("point" : Str), ("stand" : Str)] (spP K 3 p__law_is_open) :=
  ok_fnP (k := 1) (N := [("chart" : Str), ("point" : Str), ("stand" : Str), ("box" : Str), ("bar" : Str), ("at" : Str), ("row" : Str)]) F sc__law_is_open rfl fun cdv A outer s H E hr => by
    have hu : (A.deeper (envOfC ("_law_is_open" : Str) (defScope (top 23)) s.heap.objs.size fa cdv)).units + 64 < cLine := by have := hr.un; omega
    exact (dss_cons (ds_set 3 sc__law_is_open.nd (de_call (H__law_box.mono (by decide)) hr (da_cons (de_var 0) (da_cons (de_var 1) (da_cons (de_var 2) da_nil))))) (dss_cons (ds_if (dt_cmp (ob_ne hu) (de_ofL (dl_lc (own := [(("bar" : Str), 4)]) rfl sc__law_is_open.nd (di_seq (de_ix (de_var 0) de_int)) (blkOk_by (by kernel_rfl)) (fun _ _ _ _ _ => (dg_name 4 sc__law_is_open.nd (by decide))) (fun _ _ _ _ _ => (dp_one (dt_val (de_call (H__law_meet.mono (by decide)) hr (da_cons (de_var 3) (da_cons (de_var 4) da_nil)))))) (fun _ _ _ _ _ => de_int))) (de_ofL (dl_lst da_nil))) (dss_one (ds_ret de_bl)) dss_nil) (dss_one (ds_ret (de_cmp (ob_eq hu) (de_ofL (dl_lc (own := [(("at" : Str), 5), (("row" : Str), 6)]) rfl sc__law_is_open.nd (di_enum nb.enumerate (de_ix (de_var 0) de_int)) (blkOk_by (by kernel_rfl)) (fun _ _ _ _ _ => (dg_tup rfl (dgs_cons (dg_name 5 sc__law_is_open.nd (by decide)) (dgs_cons (dg_name 6 sc__law_is_open.nd (by decide)) dgs_nil)))) (fun _ _ _ _ _ => (dp_one (PW.pt (dw_and (dt_cmp (ob_ne hu) (de_var 5) (de_var 1)) (dw_and1 (dt_val (de_call (H__law_covers.mono (by decide)) hr (da_cons (de_var 3) (da_cons (de_ix (de_var 6) de_int) (da_cons (de_ix (de_var 6) de_int) da_nil)))))))))) (fun _ _ _ _ _ => de_int))) (de_ofL (dl_lst da_nil)))))))
theorem sc__law_open : FnScope [("chart" : Str), ("point" : Str), ("stand" : Str)] [("chart" : Str), ("point" : Str)] (defScope (top 24)) := ⟨rfl, rfl, rfl, by decide +kernel, rfl, by decide +kernel, by decide +kernel⟩
theorem h__law_open {P : Program} {w : World} {K : PySem.W.Frag} {mg : Str → Option Value} {base : Heap} {fa : Addr} {fd : FuncData} (nb : Nb mg) (F : Fun K ("_law_open" : Str) ("_law_open" : Str) (top 24) fa fd) (H__law_is_open : Has P w K mg base 2 ("_law_is_open" : Str) (spP K 3 p__law_is_open)) :
    FnOk P w K mg base CX0 3 fa fd [("chart" : Str), ("point" : Str)] (spP K 2 p__law_open) :=
  ok_fnP (k := 2) (N := [("chart" : Str), ("point" : Str), ("stand" : Str)]) F sc__law_open rfl fun cdv A outer s H E hr => by
    have hu : (A.deeper (envOfC ("_law_open" : Str) (defScope (top 24)) s.heap.objs.size fa cdv)).units + 64 < cLine := by have := hr.un; omega
    exact (dss_one (ds_ret (de_ofL (dl_lc (own := [(("stand" : Str), 2)]) rfl sc__law_open.nd (di_seq (de_ix (de_ix (de_ix (de_var 0) de_int) (de_var 1)) de_int)) (blkOk_by (by kernel_rfl)) (fun _ _ _ _ _ => (dg_name 2 sc__law_open.nd (by decide))) (fun _ _ _ _ _ => (dp_one (dt_val (de_call (H__law_is_open.mono (by decide)) hr (da_cons (de_var 0) (da_cons (de_var 1) (da_cons (de_var 2) da_nil))))))) (fun _ _ _ _ _ => (de_var 2))))))
theorem sc_stands_of : FnScope [("chart" : Str), ("point" : Str)] [("chart" : Str), ("point" : Str)] (defScope (top 7)) := ⟨rfl, rfl, rfl, by decide +kernel, rfl, by decide +kernel, by decide +kernel⟩
theorem h_stands_of {P : Program} {w : World} {K : PySem.W.Frag} {mg : Str → Option Value} {base : Heap} {fa : Addr} {fd : FuncData} (nb : Nb mg) (F : Fun K ("stands_of" : Str) ("stands_of" : Str) (top 7) fa fd) :
    FnOk P w K mg base CX0 1 fa fd [("chart" : Str), ("point" : Str)] (spP K 2 p_stands_of) :=
  ok_fnP (k := 0) (N := [("chart" : Str), ("point" : Str)]) F sc_stands_of rfl fun cdv A outer s H E hr => by
    have hu : (A.deeper (envOfC ("stands_of" : Str) (defScope (top 7)) s.heap.objs.size fa cdv)).units + 64 < cLine := by have := hr.un; omega
    exact (dss_one (ds_ret (de_ix (de_ix (de_ix (de_var 0) de_int) (de_var 1)) de_int)))
theorem sc_box_at : FnScope [("x" : Str), ("y" : Str), ("width" : Str), ("height" : Str), ("stand" : Str), ("left" : Str), ("low" : Str)] [("x" : Str), ("y" : Str), ("width" : Str), ("height" : Str), ("stand" : Str)] (defScope (top 1)) := ⟨rfl, rfl, rfl, by decide +kernel, rfl, by decide +kernel, by decide +kernel⟩
theorem h_box_at {P : Program} {w : World} {K : PySem.W.Frag} {mg : Str → Option Value} {base : Heap} {fa : Addr} {fd : FuncData} (nb : Nb mg) (F : Fun K ("box_at" : Str) ("box_at" : Str) (top 1) fa fd) :
    FnOk P w K mg base CX0 1 fa fd [("x" : Str), ("y" : Str), ("width" : Str), ("height" : Str), ("stand" : Str)] (spP K 5 p_box_at) :=
  ok_fnP (k := 0) (N := [("x" : Str), ("y" : Str), ("width" : Str), ("height" : Str), ("stand" : Str), ("left" : Str), ("low" : Str)]) F sc_box_at rfl fun cdv A outer s H E hr => by
    have hu : (A.deeper (envOfC ("box_at" : Str) (defScope (top 1)) s.heap.objs.size fa cdv)).units + 64 < cLine := by have := hr.un; omega
    exact (dss_cons (ds_set 5 sc_box_at.nd (de_if (dt_cmp (ob_in hu) (de_var 4) (de_tup (da_cons de_int (da_cons de_int da_nil)))) (de_var 0) (de_op od_sub (de_var 0) (de_var 2)))) (dss_cons (ds_set 6 sc_box_at.nd (de_if (dt_cmp (ob_in hu) (de_var 4) (de_tup (da_cons de_int (da_cons de_int da_nil)))) (de_var 1) (de_op od_sub (de_var 1) (de_var 3)))) (dss_one (ds_ret (de_tup (da_cons (de_var 5) (da_cons (de_var 6) (da_cons (de_op od_add (de_var 5) (de_var 2)) (da_cons (de_op od_add (de_var 6) (de_var 3)) da_nil)))))))))
theorem sc_box_of : FnScope [("chart" : Str), ("point" : Str), ("stand" : Str), ("name" : Str), ("x" : Str), ("y" : Str), ("width" : Str), ("height" : Str), ("stands" : Str)] [("chart" : Str), ("point" : Str), ("stand" : Str)] (defScope (top 2)) := ⟨rfl, rfl, rfl, by decide +kernel, rfl, by decide +kernel, by decide +kernel⟩
theorem h_box_of {P : Program} {w : World} {K : PySem.W.Frag} {mg : Str → Option Value} {base : Heap} {fa : Addr} {fd : FuncData} (nb : Nb mg) (F : Fun K ("box_of" : Str) ("box_of" : Str) (top 2) fa fd) (H_box_at : Has P w K mg base 1 ("box_at" : Str) (spP K 5 p_box_at)) :
    FnOk P w K mg base CX0 2 fa fd [("chart" : Str), ("point" : Str), ("stand" : Str)] (spP K 3 p_box_of) :=
  ok_fnP (k := 1) (N := [("chart" : Str), ("point" : Str), ("stand" : Str), ("name" : Str), ("x" : Str), ("y" : Str), ("width" : Str), ("height" : Str), ("stands" : Str)]) F sc_box_of rfl fun cdv A outer s H E hr => by
    have hu : (A.deeper (envOfC ("box_of" : Str) (defScope (top 2)) s.heap.objs.size fa cdv)).units + 64 < cLine := by have := hr.un; omega
    exact (dss_cons (ds_asg (ix := [3, 4, 5, 6, 7, 8]) (de_ix (de_ix (de_var 0) de_int) (de_var 1)) (dg_tup rfl (dgs_cons (dg_name 3 sc_box_of.nd (by decide)) (dgs_cons (dg_name 4 sc_box_of.nd (by decide)) (dgs_cons (dg_name 5 sc_box_of.nd (by decide)) (dgs_cons (dg_name 6 sc_box_of.nd (by decide)) (dgs_cons (dg_name 7 sc_box_of.nd (by decide)) (dgs_cons (dg_name 8 sc_box_of.nd (by decide)) dgs_nil)))))))) (dss_one (ds_ret (de_call (H_box_at.mono (by decide)) hr (da_cons (de_var 4) (da_cons (de_var 5) (da_cons (de_var 6) (da_cons (de_var 7) (da_cons (de_var 2) da_nil)))))))))
theorem sc_do_clash : FnScope [("one" : Str), ("other" : Str)] [("one" : Str), ("other" : Str)] (defScope (top 3)) := ⟨rfl, rfl, rfl, by decide +kernel, rfl, by decide +kernel, by decide +kernel⟩
theorem h_do_clash {P : Program} {w : World} {K : PySem.W.Frag} {mg : Str → Option Value} {base : Heap} {fa : Addr} {fd : FuncData} (nb : Nb mg) (F : Fun K ("do_clash" : Str) ("do_clash" : Str) (top 3) fa fd) :
    FnOk P w K mg base CX0 1 fa fd [("one" : Str), ("other" : Str)] (spP K 2 p_do_clash) :=
  ok_fnP (k := 0) (N := [("one" : Str), ("other" : Str)]) F sc_do_clash rfl fun cdv A outer s H E hr => by
    have hu : (A.deeper (envOfC ("do_clash" : Str) (defScope (top 3)) s.heap.objs.size fa cdv)).units + 64 < cLine := by have := hr.un; omega
    exact (dss_one (ds_ret (de_and (de_cmp (ob_lt hu) (de_ix (de_var 0) de_int) (de_ix (de_var 1) de_int)) (de_and (de_cmp (ob_lt hu) (de_ix (de_var 1) de_int) (de_ix (de_var 0) de_int)) (de_and (de_cmp (ob_lt hu) (de_ix (de_var 0) de_int) (de_ix (de_var 1) de_int)) (de_one (de_cmp (ob_lt hu) (de_ix (de_var 1) de_int) (de_ix (de_var 0) de_int))))))))
theorem sc_bars_hit : FnScope [("chart" : Str), ("point" : Str), ("stand" : Str), ("box" : Str), ("at" : Str), ("bar" : Str)] [("chart" : Str), ("point" : Str), ("stand" : Str)] (defScope (top 9)) := ⟨rfl, rfl, rfl, by decide +kernel, rfl, by decide +kernel, by decide +kernel⟩
theorem h_bars_hit {P : Program} {w : World} {K : PySem.W.Frag} {mg : Str → Option Value} {base : Heap} {fa : Addr} {fd : FuncData} (nb : Nb mg) (F : Fun K ("bars_hit" : Str) ("bars_hit" : Str) (top 9) fa fd) (H_box_of : Has P w K mg base 2 ("box_of" : Str) (spP K 3 p_box_of)) (H_do_clash : Has P w K mg base 1 ("do_clash" : Str) (spP K 2 p_do_clash)) :
    FnOk P w K mg base CX0 3 fa fd [("chart" : Str), ("point" : Str), ("stand" : Str)] (spP K 3 p_bars_hit) :=
  ok_fnP (k := 2) (N := [("chart" : Str), ("point" : Str), ("stand" : Str), ("box" : Str), ("at" : Str), ("bar" : Str)]) F sc_bars_hit rfl fun cdv A outer s H E hr => by
    have hu : (A.deeper (envOfC ("bars_hit" : Str) (defScope (top 9)) s.heap.objs.size fa cdv)).units + 64 < cLine := by have := hr.un; omega
    exact (dss_cons (ds_set 3 sc_bars_hit.nd (de_call (H_box_of.mono (by decide)) hr (da_cons (de_var 0) (da_cons (de_var 1) (da_cons (de_var 2) da_nil))))) (dss_one (ds_ret (de_callTv cd_tuple bt_tuple nb.tuple (dv_of (de_ofL (dl_lc (own := [(("at" : Str), 4), (("bar" : Str), 5)]) rfl sc_bars_hit.nd (di_enum nb.enumerate (de_ix (de_var 0) de_int)) (blkOk_by (by kernel_rfl)) (fun _ _ _ _ _ => (dg_tup rfl (dgs_cons (dg_name 4 sc_bars_hit.nd (by decide)) (dgs_cons (dg_name 5 sc_bars_hit.nd (by decide)) dgs_nil)))) (fun _ _ _ _ _ => (dp_one (dt_val (de_call (H_do_clash.mono (by decide)) hr (da_cons (de_var 3) (da_cons (de_var 5) da_nil)))))) (fun _ _ _ _ _ => (de_var 4)))))))))
theorem sc_covers : FnScope [("box" : Str), ("x" : Str), ("y" : Str)] [("box" : Str), ("x" : Str), ("y" : Str)] (defScope (top 4)) := ⟨rfl, rfl, rfl, by decide +kernel, rfl, by decide +kernel, by decide +kernel⟩
theorem h_covers {P : Program} {w : World} {K : PySem.W.Frag} {mg : Str → Option Value} {base : Heap} {fa : Addr} {fd : FuncData} (nb : Nb mg) (F : Fun K ("covers" : Str) ("covers" : Str) (top 4) fa fd) :
    FnOk P w K mg base CX0 1 fa fd [("box" : Str), ("x" : Str), ("y" : Str)] (spP K 3 p_covers) :=
  ok_fnP (k := 0) (N := [("box" : Str), ("x" : Str), ("y" : Str)]) F sc_covers rfl fun cdv A outer s H E hr => by
    have hu : (A.deeper (envOfC ("covers" : Str) (defScope (top 4)) s.heap.objs.size fa cdv)).units + 64 < cLine := by have := hr.un; omega
    exact (dss_one (ds_ret (de_and (de_chain (ob_lt hu) (ob_lt hu) (de_ix (de_var 0) de_int) (de_var 1) (de_ix (de_var 0) de_int)) (de_one (de_chain (ob_lt hu) (ob_lt hu) (de_ix (de_var 0) de_int) (de_var 2) (de_ix (de_var 0) de_int))))))
theorem sc_spot : FnScope [("chart" : Str), ("point" : Str)] [("chart" : Str), ("point" : Str)] (defScope (top 6)) := ⟨rfl, rfl, rfl, by decide +kernel, rfl, by decide +kernel, by decide +kernel⟩
theorem h_spot {P : Program} {w : World} {K : PySem.W.Frag} {mg : Str → Option Value} {base : Heap} {fa : Addr} {fd : FuncData} (nb : Nb mg) (F : Fun K ("spot" : Str) ("spot" : Str) (top 6) fa fd) :
    FnOk P w K mg base CX0 1 fa fd [("chart" : Str), ("point" : Str)] (spP K 2 p_spot) :=
  ok_fnP (k := 0) (N := [("chart" : Str), ("point" : Str)]) F sc_spot rfl fun cdv A outer s H E hr => by
    have hu : (A.deeper (envOfC ("spot" : Str) (defScope (top 6)) s.heap.objs.size fa cdv)).units + 64 < cLine := by have := hr.un; omega
    exact (dss_one (ds_ret (de_slice (de_ix (de_ix (de_var 0) de_int) (de_var 1)) (do_some de_int) (do_some de_int))))
theorem sc_points_hit : FnScope [("chart" : Str), ("point" : Str), ("stand" : Str), ("box" : Str), ("others" : Str), ("one" : Str)] [("chart" : Str), ("point" : Str), ("stand" : Str)] (defScope (top 10)) := ⟨rfl, rfl, rfl, by decide +kernel, rfl, by decide +kernel, by decide +kernel⟩
theorem h_points_hit {P : Program} {w : World} {K : PySem.W.Frag} {mg : Str → Option Value} {base : Heap} {fa : Addr} {fd : FuncData} (nb : Nb mg) (F : Fun K ("points_hit" : Str) ("points_hit" : Str) (top 10) fa fd) (H_box_of : Has P w K mg base 2 ("box_of" : Str) (spP K 3 p_box_of)) (H_covers : Has P w K mg base 1 ("covers" : Str) (spP K 3 p_covers)) (H_spot : Has P w K mg base 1 ("spot" : Str) (spP K 2 p_spot)) :
    FnOk P w K mg base CX0 3 fa fd [("chart" : Str), ("point" : Str), ("stand" : Str)] (spP K 3 p_points_hit) :=
  ok_fnP (k := 2) (N := [("chart" : Str), ("point" : Str), ("stand" : Str), ("box" : Str), ("others" : Str), ("one" : Str)]) F sc_points_hit rfl fun cdv A outer s H E hr => by
    have hu : (A.deeper (envOfC ("points_hit" : Str) (defScope (top 10)) s.heap.objs.size fa cdv)).units + 64 < cLine := by have := hr.un; omega
    exact (dss_cons (ds_parT 3 4 (k1 := (.d (mCall 3 p_box_of (mCons (mVar 0) (mCons (mVar 1) (mCons (mVar 2) mNil)))))) (k2 := (.d (mOfL (mComp (mRng1 (mV lenS (mView (mOp ixD (mVar 0) (mC (.int 0)))))) [5] (gN 5) (mCmp neD (mVar 5) (mVar 1)) (mVar 5))))) rfl sc_points_hit.nd (de_call (H_box_of.mono (by decide)) hr (da_cons (de_var 0) (da_cons (de_var 1) (da_cons (de_var 2) da_nil)))) (de_ofL (dl_lc (own := [(("one" : Str), 5)]) rfl sc_points_hit.nd (di_range1 nb.range (de_callBv cd_len bt_len nb.len (dv_of (de_ix (de_var 0) de_int)))) (blkOk_by (by kernel_rfl)) (fun _ _ _ _ _ => (dg_name 5 sc_points_hit.nd (by decide))) (fun _ _ _ _ _ => (dp_one (dt_cmp (ob_ne hu) (de_var 5) (de_var 1)))) (fun _ _ _ _ _ => (de_var 5))))) (dss_one (ds_ret (de_callTv cd_tuple bt_tuple nb.tuple (dv_of (de_ofL (dl_lc (own := [(("one" : Str), 5)]) rfl sc_points_hit.nd (di_seq (de_var 4)) (blkOk_by (by kernel_rfl)) (fun _ _ _ _ _ => (dg_name 5 sc_points_hit.nd (by decide))) (fun _ _ _ _ _ => (dp_one (dt_val (de_call (H_covers.mono (by decide)) hr (da_cons (de_var 3) (da_cons (de_ix (de_call (H_spot.mono (by decide)) hr (da_cons (de_var 0) (da_cons (de_var 5) da_nil))) de_int) (da_cons (de_ix (de_call (H_spot.mono (by decide)) hr (da_cons (de_var 0) (da_cons (de_var 5) da_nil))) de_int) da_nil))))))) (fun _ _ _ _ _ => (de_var 5)))))))))
theorem sc_is_open : FnScope [("chart" : Str), ("point" : Str), ("stand" : Str)] [("chart" : Str), ("point" : Str), ("stand" : Str)] (defScope (top 11)) := ⟨rfl, rfl, rfl, by decide +kernel, rfl, by decide +kernel, by decide +kernel⟩
theorem h_is_open {P : Program} {w : World} {K : PySem.W.Frag} {mg : Str → Option Value} {base : Heap} {fa : Addr} {fd : FuncData} (nb : Nb mg) (F : Fun K ("is_open" : Str) ("is_open" : Str) (top 11) fa fd) (H_bars_hit : Has P w K mg base 3 ("bars_hit" : Str) (spP K 3 p_bars_hit)) (H_points_hit : Has P w K mg base 3 ("points_hit" : Str) (spP K 3 p_points_hit)) :
    FnOk P w K mg base CX0 4 fa fd [("chart" : Str), ("point" : Str), ("stand" : Str)] (spP K 3 p_is_open) :=
  ok_fnP (k := 3) (N := [("chart" : Str), ("point" : Str), ("stand" : Str)]) F sc_is_open rfl fun cdv A outer s H E hr => by
    have hu : (A.deeper (envOfC ("is_open" : Str) (defScope (top 11)) s.heap.objs.size fa cdv)).units + 64 < cLine := by have := hr.un; omega
    exact (dss_one (ds_ret (de_and (de_cmp (ob_eq hu) (de_call (H_bars_hit.mono (by decide)) hr (da_cons (de_var 0) (da_cons (de_var 1) (da_cons (de_var 2) da_nil)))) (de_tup da_nil)) (de_one (de_cmp (ob_eq hu) (de_call (H_points_hit.mono (by decide)) hr (da_cons (de_var 0) (da_cons (de_var 1) (da_cons (de_var 2) da_nil)))) (de_tup da_nil))))))
theorem sc_open_stands : FnScope [("chart" : Str), ("point" : Str), ("stand" : Str)] [("chart" : Str), ("point" : Str)] (defScope (top 12)) := ⟨rfl, rfl, rfl, by decide +kernel, rfl, by decide +kernel, by decide +kernel⟩
theorem h_open_stands {P : Program} {w : World} {K : PySem.W.Frag} {mg : Str → Option Value} {base : Heap} {fa : Addr} {fd : FuncData} (nb : Nb mg) (F : Fun K ("open_stands" : Str) ("open_stands" : Str) (top 12) fa fd) (H_stands_of : Has P w K mg base 1 ("stands_of" : Str) (spP K 2 p_stands_of)) (H_is_open : Has P w K mg base 4 ("is_open" : Str) (spP K 3 p_is_open)) :
    FnOk P w K mg base CX0 5 fa fd [("chart" : Str), ("point" : Str)] (spP K 2 p_open_stands) :=
  ok_fnP (k := 4) (N := [("chart" : Str), ("point" : Str), ("stand" : Str)]) F sc_open_stands rfl fun cdv A outer s H E hr => by
    have hu : (A.deeper (envOfC ("open_stands" : Str) (defScope (top 12)) s.heap.objs.size fa cdv)).units + 64 < cLine := by have := hr.un; omega
    exact (dss_one (ds_ret (de_callTv cd_tuple bt_tuple nb.tuple (dv_of (de_ofL (dl_lc (own := [(("stand" : Str), 2)]) rfl sc_open_stands.nd (di_seq (de_call (H_stands_of.mono (by decide)) hr (da_cons (de_var 0) (da_cons (de_var 1) da_nil)))) (blkOk_by (by kernel_rfl)) (fun _ _ _ _ _ => (dg_name 2 sc_open_stands.nd (by decide))) (fun _ _ _ _ _ => (dp_one (dt_val (de_call (H_is_open.mono (by decide)) hr (da_cons (de_var 0) (da_cons (de_var 1) (da_cons (de_var 2) da_nil))))))) (fun _ _ _ _ _ => (de_var 2))))))))
theorem sc_all_open : FnScope [("chart" : Str), ("point" : Str)] [("chart" : Str)] (defScope (top 13)) := ⟨rfl, rfl, rfl, by decide +kernel, rfl, by decide +kernel, by decide +kernel⟩
theorem h_all_open {P : Program} {w : World} {K : PySem.W.Frag} {mg : Str → Option Value} {base : Heap} {fa : Addr} {fd : FuncData} (nb : Nb mg) (F : Fun K ("all_open" : Str) ("all_open" : Str) (top 13) fa fd) (H_open_stands : Has P w K mg base 5 ("open_stands" : Str) (spP K 2 p_open_stands)) :
    FnOk P w K mg base CX0 6 fa fd [("chart" : Str)] (spP K 1 p_all_open) :=
  ok_fnP (k := 5) (N := [("chart" : Str), ("point" : Str)]) F sc_all_open rfl fun cdv A outer s H E hr => by
    have hu : (A.deeper (envOfC ("all_open" : Str) (defScope (top 13)) s.heap.objs.size fa cdv)).units + 64 < cLine := by have := hr.un; omega
    exact (dss_one (ds_ret (de_callTv cd_tuple bt_tuple nb.tuple (dv_of (de_ofL (dl_lc (own := [(("point" : Str), 1)]) rfl sc_all_open.nd (di_range1 nb.range (de_callBv cd_len bt_len nb.len (dv_of (de_ix (de_var 0) de_int)))) (blkOk_by (by kernel_rfl)) (fun _ _ _ _ _ => (dg_name 1 sc_all_open.nd (by decide))) (fun _ _ _ _ _ => dp_nil) (fun _ _ _ _ _ => (de_call (H_open_stands.mono (by decide)) hr (da_cons (de_var 0) (da_cons (de_var 1) da_nil))))))))))
theorem sc_names_hit : FnScope [("chart" : Str), ("point" : Str), ("stand" : Str), ("box" : Str), ("found" : Str), ("other" : Str), ("stands" : Str), ("its" : Str)] [("chart" : Str), ("point" : Str), ("stand" : Str)] (defScope (top 14)) := ⟨rfl, rfl, rfl, by decide +kernel, rfl, by decide +kernel, by decide +kernel⟩
theorem h_names_hit {P : Program} {w : World} {K : PySem.W.Frag} {mg : Str → Option Value} {base : Heap} {fa : Addr} {fd : FuncData} (nb : Nb mg) (F : Fun K ("names_hit" : Str) ("names_hit" : Str) (top 14) fa fd) (H_box_of : Has P w K mg base 2 ("box_of" : Str) (spP K 3 p_box_of)) (H_do_clash : Has P w K mg base 1 ("do_clash" : Str) (spP K 2 p_do_clash)) (H_all_open : Has P w K mg base 6 ("all_open" : Str) (spP K 1 p_all_open)) :
    FnOk P w K mg base CX0 7 fa fd [("chart" : Str), ("point" : Str), ("stand" : Str)] (spP K 3 p_names_hit) :=
  ok_fnP (k := 6) (N := [("chart" : Str), ("point" : Str), ("stand" : Str), ("box" : Str), ("found" : Str), ("other" : Str), ("stands" : Str), ("its" : Str)]) F sc_names_hit rfl fun cdv A outer s H E hr => by
    have hu : (A.deeper (envOfC ("names_hit" : Str) (defScope (top 14)) s.heap.objs.size fa cdv)).units + 64 < cLine := by have := hr.un; omega
    exact (dss_cons (ds_parT 3 4 (k1 := (.d (mCall 3 p_box_of (mCons (mVar 0) (mCons (mVar 1) (mCons (mVar 2) mNil)))))) (k2 := (.o (mLst mNil))) rfl sc_names_hit.nd (de_call (H_box_of.mono (by decide)) hr (da_cons (de_var 0) (da_cons (de_var 1) (da_cons (de_var 2) da_nil)))) (dl_lst da_nil)) (dss_cons (ds_for (ix := [5, 6]) PassesOwn.never rfl (di_enum nb.enumerate (de_call (H_all_open.mono (by decide)) hr (da_cons (de_var 0) da_nil))) (dg_tup rfl (dgs_cons (dg_name 5 sc_names_hit.nd (by decide)) (dgs_cons (dg_name 6 sc_names_hit.nd (by decide)) dgs_nil))) (dss_one (ds_if (dt_cmp (ob_ne hu) (de_var 5) (de_var 1)) (dss_one (ds_extend 4 (dl_lc (own := [(("its" : Str), 7)]) rfl sc_names_hit.nd (di_seq (de_var 6)) (blkOk_by (by kernel_rfl)) (fun _ _ _ _ _ => (dg_name 7 sc_names_hit.nd (by decide))) (fun _ _ _ _ _ => (dp_one (dt_val (de_call (H_do_clash.mono (by decide)) hr (da_cons (de_var 3) (da_cons (de_call (H_box_of.mono (by decide)) hr (da_cons (de_var 0) (da_cons (de_var 5) (da_cons (de_var 7) da_nil)))) da_nil)))))) (fun _ _ _ _ _ => (de_tup (da_cons (de_var 5) (da_cons (de_var 7) da_nil))))))) dss_nil))) (dss_one (ds_ret (de_callTv cd_tuple bt_tuple nb.tuple (dv_own 4))))))
theorem sc__law_pair : FnScope [("chart" : Str), ("one" : Str), ("stand" : Str), ("other" : Str), ("its" : Str)] [("chart" : Str), ("one" : Str), ("stand" : Str), ("other" : Str), ("its" : Str)] (defScope (top 25)) := ⟨rfl, rfl, rfl, by decide +kernel, rfl, by decide +kernel, by decide +kernel⟩
theorem h__law_pair {P : Program} {w : World} {K : PySem.W.Frag} {mg : Str → Option Value} {base : Heap} {fa : Addr} {fd : FuncData} (nb : Nb mg) (F : Fun K ("_law_pair" : Str) ("_law_pair" : Str) (top 25) fa fd) (H__law_box : Has P w K mg base 1 ("_law_box" : Str) (spP K 3 p__law_box)) (H__law_meet : Has P w K mg base 1 ("_law_meet" : Str) (spP K 2 p__law_meet)) :
    FnOk P w K mg base CX0 2 fa fd [("chart" : Str), ("one" : Str), ("stand" : Str), ("other" : Str), ("its" : Str)] (spP K 5 p__law_pair) :=
  ok_fnP (k := 1) (N := [("chart" : Str), ("one" : Str), ("stand" : Str), ("other" : Str), ("its" : Str)]) F sc__law_pair rfl fun cdv A outer s H E hr => by
    have hu : (A.deeper (envOfC ("_law_pair" : Str) (defScope (top 25)) s.heap.objs.size fa cdv)).units + 64 < cLine := by have := hr.un; omega
    exact (dss_one (ds_ret (de_call (H__law_meet.mono (by decide)) hr (da_cons (de_call (H__law_box.mono (by decide)) hr (da_cons (de_var 0) (da_cons (de_var 1) (da_cons (de_var 2) da_nil)))) (da_cons (de_call (H__law_box.mono (by decide)) hr (da_cons (de_var 0) (da_cons (de_var 3) (da_cons (de_var 4) da_nil)))) da_nil)))))
theorem sc_law : FnScope [("script" : Str), ("bag" : Str), ("turn" : Str), ("chart" : Str), ("points" : Str), ("hits" : Str), ("opened" : Str), ("point" : Str), ("stand" : Str), ("box" : Str), ("bars" : Str), ("spots" : Str), ("names" : Str), ("other" : Str), ("found" : Str), ("at" : Str), ("bar" : Str), ("row" : Str), ("its" : Str), ("couple" : Str), ("one" : Str)] [("script" : Str)] (defScope (top 29)) := ⟨rfl, rfl, rfl, by decide +kernel, rfl, by decide +kernel, by decide +kernel⟩
theorem h_law {P : Program} {w : World} {K : PySem.W.Frag} {mg : Str → Option Value} {base : Heap} {fa : Addr} {fd : FuncData} (nb : Nb mg) (F : Fun K ("law" : Str) ("law" : Str) (top 29) fa fd) (H__law_bag : Has P w K mg base 1 ("_law_bag" : Str) (spL K 1 p__law_bag)) (H__law_chart : Has P w K mg base 4 ("_law_chart" : Str) (spB K 5 p__law_chart)) (H__law_alike : Has P w K mg base 1 ("_law_alike" : Str) (spP K 2 p__law_alike)) (H__law_box : Has P w K mg base 1 ("_law_box" : Str) (spP K 3 p__law_box)) (H__law_meet : Has P w K mg base 1 ("_law_meet" : Str) (spP K 2 p__law_meet)) (H__law_covers : Has P w K mg base 1 ("_law_covers" : Str) (spP K 3 p__law_covers)) (H__law_open : Has P w K mg base 3 ("_law_open" : Str) (spP K 2 p__law_open)) (H_bars_hit : Has P w K mg base 3 ("bars_hit" : Str) (spP K 3 p_bars_hit)) (H_points_hit : Has P w K mg base 3 ("points_hit" : Str) (spP K 3 p_points_hit)) (H_is_open : Has P w K mg base 4 ("is_open" : Str) (spP K 3 p_is_open)) (H_open_stands : Has P w K mg base 5 ("open_stands" : Str) (spP K 2 p_open_stands)) (H_all_open : Has P w K mg base 6 ("all_open" : Str) (spP K 1 p_all_open)) (H_names_hit : Has P w K mg base 7 ("names_hit" : Str) (spP K 3 p_names_hit)) (H__law_pair : Has P w K mg base 2 ("_law_pair" : Str) (spP K 5 p__law_pair)) :
    FnOk P w K mg base CX0 8 fa fd [("script" : Str)] (spP K 1 p_law) :=
  ok_fnP (k := 7) (N := [("script" : Str), ("bag" : Str), ("turn" : Str), ("chart" : Str), ("points" : Str), ("hits" : Str), ("opened" : Str), ("point" : Str), ("stand" : Str), ("box" : Str), ("bars" : Str), ("spots" : Str), ("names" : Str), ("other" : Str), ("found" : Str), ("at" : Str), ("bar" : Str), ("row" : Str), ("its" : Str), ("couple" : Str), ("one" : Str)]) F sc_law rfl fun cdv A outer s H E hr => by
    have hu : (A.deeper (envOfC ("law" : Str) (defScope (top 29)) s.heap.objs.size fa cdv)).units + 64 < cLine := by have := hr.un; omega
    exact (dss_cons (ds_setOwn 1 sc_law.nd (dl_call (H__law_bag.mono (by decide)) hr (da_cons (de_var 0) da_nil))) (dss_cons (ds_for (ix := [2]) PassesOwn.never rfl (di_range1 nb.range de_int) (dg_name 2 sc_law.nd (by decide)) (dss_cons (ds_set 3 sc_law.nd (de_callB (H__law_chart.mono (by decide)) hr 1 (da_cons de_int (da_cons de_int (da_cons de_int (da_cons de_int da_nil)))))) (dss_cons (ds_parT 4 5 (k1 := (.d (mOfL (mLRg (mRng1 (mV lenS (mView (mOp ixD (mVar 3) (mC (.int 0)))))))))) (k2 := (.o (mLst mNil))) rfl sc_law.nd (de_ofL (dl_listRg1 rfl nb.range nb.list (de_callBv cd_len bt_len nb.len (dv_of (de_ix (de_var 3) de_int))))) (dl_lst da_nil)) (dss_cons (ds_setLc (own := [(("point" : Str), 7)]) 6 rfl sc_law.nd rfl rfl rfl (di_seq (de_var 4)) (blkOk_by (by kernel_rfl)) (fun _ _ _ _ _ => (dg_name 7 sc_law.nd (by decide))) (fun _ _ _ _ _ => dp_nil) (fun _ _ _ _ _ => (de_callTv cd_tuple bt_tuple nb.tuple (dv_of (de_call (H__law_open.mono (by decide)) hr (da_cons (de_var 3) (da_cons (de_var 7) da_nil))))))) (dss_cons (ds_if (dt_not (dt_val (de_call (H__law_alike.mono (by decide)) hr (da_cons (de_ofL (dl_lst (da_cons (de_call (H_all_open.mono (by decide)) hr (da_cons (de_var 3) da_nil)) (da_cons (de_ofL (dl_lc (own := [(("point" : Str), 7)]) rfl sc_law.nd (di_seq (de_var 4)) (blkOk_by (by kernel_rfl)) (fun _ _ _ _ _ => (dg_name 7 sc_law.nd (by decide))) (fun _ _ _ _ _ => dp_nil) (fun _ _ _ _ _ => (de_call (H_open_stands.mono (by decide)) hr (da_cons (de_var 3) (da_cons (de_var 7) da_nil)))))) da_nil)))) (da_cons (de_ofL (dl_lst (da_cons (de_callTv cd_tuple bt_tuple nb.tuple (dv_of (de_var 6))) (da_cons (de_var 6) da_nil)))) da_nil))))) (dss_one (ds_ret de_bl)) dss_nil) (dss_cons (ds_for (ix := [7]) PassesOwn.never rfl (di_seq (de_var 4)) (dg_name 7 sc_law.nd (by decide)) (dss_one (ds_for (ix := [8]) PassesOwn.never rfl (di_seq (de_ix (de_ix (de_ix (de_var 3) de_int) (de_var 7)) de_int)) (dg_name 8 sc_law.nd (by decide)) (dss_cons (ds_set 9 sc_law.nd (de_call (H__law_box.mono (by decide)) hr (da_cons (de_var 3) (da_cons (de_var 7) (da_cons (de_var 8) da_nil))))) (dss_cons (ds_set 10 sc_law.nd (de_callTv cd_tuple bt_tuple nb.tuple (dv_of (de_ofL (dl_lc (own := [(("at" : Str), 15), (("bar" : Str), 16)]) rfl sc_law.nd (di_enum nb.enumerate (de_ix (de_var 3) de_int)) (blkOk_by (by kernel_rfl)) (fun _ _ _ _ _ => (dg_tup rfl (dgs_cons (dg_name 15 sc_law.nd (by decide)) (dgs_cons (dg_name 16 sc_law.nd (by decide)) dgs_nil)))) (fun _ _ _ _ _ => (dp_one (dt_val (de_call (H__law_meet.mono (by decide)) hr (da_cons (de_var 9) (da_cons (de_var 16) da_nil)))))) (fun _ _ _ _ _ => (de_var 15))))))) (dss_cons (ds_set 11 sc_law.nd (de_callTv cd_tuple bt_tuple nb.tuple (dv_of (de_ofL (dl_lc (own := [(("at" : Str), 15), (("row" : Str), 17)]) rfl sc_law.nd (di_enum nb.enumerate (de_ix (de_var 3) de_int)) (blkOk_by (by kernel_rfl)) (fun _ _ _ _ _ => (dg_tup rfl (dgs_cons (dg_name 15 sc_law.nd (by decide)) (dgs_cons (dg_name 17 sc_law.nd (by decide)) dgs_nil)))) (fun _ _ _ _ _ => (dp_one (PW.pt (dw_and (dt_cmp (ob_ne hu) (de_var 15) (de_var 7)) (dw_and1 (dt_val (de_call (H__law_covers.mono (by decide)) hr (da_cons (de_var 9) (da_cons (de_ix (de_var 17) de_int) (da_cons (de_ix (de_var 17) de_int) da_nil)))))))))) (fun _ _ _ _ _ => (de_var 15))))))) (dss_cons (ds_setOwn 12 sc_law.nd (dl_lst da_nil)) (dss_cons (ds_for (ix := [13]) PassesOwn.never rfl (di_seq (de_var 4)) (dg_name 13 sc_law.nd (by decide)) (dss_one (ds_if (dt_cmp (ob_ne hu) (de_var 13) (de_var 7)) (dss_one (ds_extend 12 (dl_lc (own := [(("its" : Str), 18)]) rfl sc_law.nd (di_seq (de_ix (de_var 6) (de_var 13))) (blkOk_by (by kernel_rfl)) (fun _ _ _ _ _ => (dg_name 18 sc_law.nd (by decide))) (fun _ _ _ _ _ => (dp_one (dt_val (de_call (H__law_pair.mono (by decide)) hr (da_cons (de_var 3) (da_cons (de_var 7) (da_cons (de_var 8) (da_cons (de_var 13) (da_cons (de_var 18) da_nil))))))))) (fun _ _ _ _ _ => (de_tup (da_cons (de_var 13) (da_cons (de_var 18) da_nil))))))) dss_nil))) (dss_cons (ds_set 14 sc_law.nd (de_ofL (dl_lst (da_cons (de_call (H_bars_hit.mono (by decide)) hr (da_cons (de_var 3) (da_cons (de_var 7) (da_cons (de_var 8) da_nil)))) (da_cons (de_call (H_points_hit.mono (by decide)) hr (da_cons (de_var 3) (da_cons (de_var 7) (da_cons (de_var 8) da_nil)))) (da_cons (de_call (H_is_open.mono (by decide)) hr (da_cons (de_var 3) (da_cons (de_var 7) (da_cons (de_var 8) da_nil)))) (da_cons (de_call (H_names_hit.mono (by decide)) hr (da_cons (de_var 3) (da_cons (de_var 7) (da_cons (de_var 8) da_nil)))) da_nil))))))) (dss_cons (ds_if (dt_not (dt_val (de_call (H__law_alike.mono (by decide)) hr (da_cons (de_var 14) (da_cons (de_ofL (dl_lst (da_cons (de_var 10) (da_cons (de_var 11) (da_cons (de_and (de_cmp (ob_eq hu) (de_var 10) (de_tup da_nil)) (de_one (de_cmp (ob_eq hu) (de_var 11) (de_tup da_nil)))) (da_cons (de_callTv cd_tuple bt_tuple nb.tuple (dv_own 12)) da_nil)))))) da_nil))))) (dss_one (ds_ret de_bl)) dss_nil) (dss_frz 12 (dss_one (ds_if (dt_cmp (ob_in hu) (de_var 8) (de_ix (de_var 6) (de_var 7))) (dss_one (ds_extend 5 (dl_lc (own := [(("couple" : Str), 19)]) rfl sc_law.nd (di_seq (de_var 12)) (blkOk_by (by kernel_rfl)) (fun _ _ _ _ _ => (dg_name 19 sc_law.nd (by decide))) (fun _ _ _ _ _ => dp_nil) (fun _ _ _ _ _ => (de_tup (da_cons (de_tup (da_cons (de_var 7) (da_cons (de_var 8) da_nil))) (da_cons (de_var 19) da_nil))))))) dss_nil))))))))))))) (dss_frz 5 (dss_one (ds_if (dt_cmp (ob_ne hu) (de_ofL (dl_lc (own := [(("one" : Str), 20), (("other" : Str), 13)]) rfl sc_law.nd (di_seq (de_var 5)) (blkOk_by (by kernel_rfl)) (fun _ _ _ _ _ => (dg_tup rfl (dgs_cons (dg_name 20 sc_law.nd (by decide)) (dgs_cons (dg_name 13 sc_law.nd (by decide)) dgs_nil)))) (fun _ _ _ _ _ => (dp_one (dt_cmp (ob_notIn hu) (de_tup (da_cons (de_var 13) (da_cons (de_var 20) da_nil))) (de_var 5)))) (fun _ _ _ _ _ => de_int))) (de_ofL (dl_lst da_nil))) (dss_one (ds_ret de_bl)) dss_nil))))))))) (dss_one (ds_ret de_bl))))
end L2.DL.k07

namespace L2.DL.k07
open PySem PySem.Spec PyProof.Rows L2.DL.Cm
theorem all_mk {l : PySem.W.OpenLaw} {w : World} {K : PySem.W.Frag} {h : Heap} {mg : Str → Option Value} {fa : Addr} (X : K.In h) (G : h.Ns mainGlobals mg) (hfa : mg "law" = some (.ref fa))
    (D__law_bag : Def K ("_law_bag" : Str) (top 16)) (D__law_take : Def K ("_law_take" : Str) (top 17)) (D__law_mixed : Def K ("_law_mixed" : Str) (top 18)) (D__law_names : Def K ("_law_names" : Str) (top 26)) (D__law_stands : Def K ("_law_stands" : Str) (top 27)) (D__law_chart : Def K ("_law_chart" : Str) (top 28)) (D__law_alike : Def K ("_law_alike" : Str) (top 19)) (D__law_box : Def K ("_law_box" : Str) (top 20)) (D__law_meet : Def K ("_law_meet" : Str) (top 21)) (D__law_covers : Def K ("_law_covers" : Str) (top 22)) (D__law_is_open : Def K ("_law_is_open" : Str) (top 23)) (D__law_open : Def K ("_law_open" : Str) (top 24)) (D_stands_of : Def K ("stands_of" : Str) (top 7)) (D_box_at : Def K ("box_at" : Str) (top 1)) (D_box_of : Def K ("box_of" : Str) (top 2)) (D_do_clash : Def K ("do_clash" : Str) (top 3)) (D_bars_hit : Def K ("bars_hit" : Str) (top 9)) (D_covers : Def K ("covers" : Str) (top 4)) (D_spot : Def K ("spot" : Str) (top 6)) (D_points_hit : Def K ("points_hit" : Str) (top 10)) (D_is_open : Def K ("is_open" : Str) (top 11)) (D_open_stands : Def K ("open_stands" : Str) (top 12)) (D_all_open : Def K ("all_open" : Str) (top 13)) (D_names_hit : Def K ("names_hit" : Str) (top 14)) (D__law_pair : Def K ("_law_pair" : Str) (top 25)) (D_law : Def K ("law" : Str) (top 29)) (z_len : PySem.W.nsIn K mainGlobals "len" = some none) (z_abs : PySem.W.nsIn K mainGlobals "abs" = some none) (z_int : PySem.W.nsIn K mainGlobals "int" = some none) (z_max : PySem.W.nsIn K mainGlobals "max" = some none) (z_min : PySem.W.nsIn K mainGlobals "min" = some none) (z_tuple : PySem.W.nsIn K mainGlobals "tuple" = some none) (z_list : PySem.W.nsIn K mainGlobals "list" = some none) (z_sorted : PySem.W.nsIn K mainGlobals "sorted" = some none) (z_isinstance : PySem.W.nsIn K mainGlobals "isinstance" = some none) (z_range : PySem.W.nsIn K mainGlobals "range" = some none) (z_enumerate : PySem.W.nsIn K mainGlobals "enumerate" = some none) (z_zip : PySem.W.nsIn K mainGlobals "zip" = some none) (z_str : PySem.W.nsIn K mainGlobals "str" = some none) (z_bool : PySem.W.nsIn K mainGlobals "bool" = some none) :
    ∃ fd : FuncData, (∀ (s : Shared) (v : Value), BindsTo s fd ⟨[v], []⟩ [("script", v)]) ∧ ∀ base : Heap, K.In base → base.Ns mainGlobals mg → FnOk l.prog w K mg base CX0 8 fa fd ["script"] (spLaw K) := by
  obtain ⟨f__law_bag, fd__law_bag, a__law_bag, F__law_bag⟩ := D__law_bag.ex
  obtain ⟨f__law_take, fd__law_take, a__law_take, F__law_take⟩ := D__law_take.ex
  obtain ⟨f__law_mixed, fd__law_mixed, a__law_mixed, F__law_mixed⟩ := D__law_mixed.ex
  obtain ⟨f__law_names, fd__law_names, a__law_names, F__law_names⟩ := D__law_names.ex
  obtain ⟨f__law_stands, fd__law_stands, a__law_stands, F__law_stands⟩ := D__law_stands.ex
  obtain ⟨f__law_chart, fd__law_chart, a__law_chart, F__law_chart⟩ := D__law_chart.ex
  obtain ⟨f__law_alike, fd__law_alike, a__law_alike, F__law_alike⟩ := D__law_alike.ex
  obtain ⟨f__law_box, fd__law_box, a__law_box, F__law_box⟩ := D__law_box.ex
  obtain ⟨f__law_meet, fd__law_meet, a__law_meet, F__law_meet⟩ := D__law_meet.ex
  obtain ⟨f__law_covers, fd__law_covers, a__law_covers, F__law_covers⟩ := D__law_covers.ex
  obtain ⟨f__law_is_open, fd__law_is_open, a__law_is_open, F__law_is_open⟩ := D__law_is_open.ex
  obtain ⟨f__law_open, fd__law_open, a__law_open, F__law_open⟩ := D__law_open.ex
  obtain ⟨f_stands_of, fd_stands_of, a_stands_of, F_stands_of⟩ := D_stands_of.ex
  obtain ⟨f_box_at, fd_box_at, a_box_at, F_box_at⟩ := D_box_at.ex
  obtain ⟨f_box_of, fd_box_of, a_box_of, F_box_of⟩ := D_box_of.ex
  obtain ⟨f_do_clash, fd_do_clash, a_do_clash, F_do_clash⟩ := D_do_clash.ex
  obtain ⟨f_bars_hit, fd_bars_hit, a_bars_hit, F_bars_hit⟩ := D_bars_hit.ex
  obtain ⟨f_covers, fd_covers, a_covers, F_covers⟩ := D_covers.ex
  obtain ⟨f_spot, fd_spot, a_spot, F_spot⟩ := D_spot.ex
  obtain ⟨f_points_hit, fd_points_hit, a_points_hit, F_points_hit⟩ := D_points_hit.ex
  obtain ⟨f_is_open, fd_is_open, a_is_open, F_is_open⟩ := D_is_open.ex
  obtain ⟨f_open_stands, fd_open_stands, a_open_stands, F_open_stands⟩ := D_open_stands.ex
  obtain ⟨f_all_open, fd_all_open, a_all_open, F_all_open⟩ := D_all_open.ex
  obtain ⟨f_names_hit, fd_names_hit, a_names_hit, F_names_hit⟩ := D_names_hit.ex
  obtain ⟨f__law_pair, fd__law_pair, a__law_pair, F__law_pair⟩ := D__law_pair.ex
  obtain ⟨f_law, fd_law, a_law, F_law⟩ := D_law.ex
  have nb : Nb mg := ⟨PySem.W.mg_none_of X G z_len, PySem.W.mg_none_of X G z_abs, PySem.W.mg_none_of X G z_int, PySem.W.mg_none_of X G z_max, PySem.W.mg_none_of X G z_min, PySem.W.mg_none_of X G z_tuple, PySem.W.mg_none_of X G z_list, PySem.W.mg_none_of X G z_sorted, PySem.W.mg_none_of X G z_isinstance, PySem.W.mg_none_of X G z_range, PySem.W.mg_none_of X G z_enumerate, PySem.W.mg_none_of X G z_zip, PySem.W.mg_none_of X G z_str, PySem.W.mg_none_of X G z_bool⟩
  have e := hfa.symm.trans (PySem.W.mg_of X G a_law)
  cases e
  obtain ⟨oc, od, kV, doc, pm, an, cdv, ct, osl, rfl, lk, hcd⟩ := id F_law.ex
  refine ⟨PySem.W.fnOf "law" "law" (defArgs (top 29)) (defBody (top 29)) (defScope (top 29)) .none kV doc pm an cdv ct, fun s v => .of_eq rfl, fun base _ _ => ?_⟩
  have H__law_bag : Has l.prog w K mg base 1 ("_law_bag" : Str) (spL K 1 p__law_bag) := Has.mk' (PySem.W.mg_of X G a__law_bag) F__law_bag (F__law_bag.binds (ps := [("script" : Str)]) fun _ _ _ _ _ _ us hl => match us, hl with | [_], _ => rfl) (h__law_bag nb F__law_bag)
  have H__law_take : Has l.prog w K mg base 1 ("_law_take" : Str) (spB K 2 p__law_take) := Has.mk' (PySem.W.mg_of X G a__law_take) F__law_take (F__law_take.binds (ps := [("bag" : Str), ("many" : Str)]) fun _ _ _ _ _ _ us hl => match us, hl with | [_, _], _ => rfl) (h__law_take nb F__law_take)
  have H__law_mixed : Has l.prog w K mg base 2 ("_law_mixed" : Str) (spB K 2 p__law_mixed) := Has.mk' (PySem.W.mg_of X G a__law_mixed) F__law_mixed (F__law_mixed.binds (ps := [("bag" : Str), ("things" : Str)]) fun _ _ _ _ _ _ us hl => match us, hl with | [_, _], _ => rfl) (h__law_mixed nb F__law_mixed H__law_take)
  have H__law_names : Has l.prog w K mg base 3 ("_law_names" : Str) (spB K 2 p__law_names) := Has.mk' (PySem.W.mg_of X G a__law_names) F__law_names (F__law_names.binds (ps := [("bag" : Str), ("many" : Str)]) fun _ _ _ _ _ _ us hl => match us, hl with | [_, _], _ => rfl) (h__law_names nb F__law_names H__law_mixed)
  have H__law_stands : Has l.prog w K mg base 3 ("_law_stands" : Str) (spB K 2 p__law_stands) := Has.mk' (PySem.W.mg_of X G a__law_stands) F__law_stands (F__law_stands.binds (ps := [("bag" : Str), ("most" : Str)]) fun _ _ _ _ _ _ us hl => match us, hl with | [_, _], _ => rfl) (h__law_stands nb F__law_stands H__law_take H__law_mixed)
  have H__law_chart : Has l.prog w K mg base 4 ("_law_chart" : Str) (spB K 5 p__law_chart) := Has.mk' (PySem.W.mg_of X G a__law_chart) F__law_chart (F__law_chart.binds (ps := [("bag" : Str), ("points" : Str), ("most" : Str), ("bars" : Str), ("room" : Str)]) fun _ _ _ _ _ _ us hl => match us, hl with | [_, _, _, _, _], _ => rfl) (h__law_chart nb F__law_chart H__law_take H__law_names H__law_stands)
  have H__law_alike : Has l.prog w K mg base 1 ("_law_alike" : Str) (spP K 2 p__law_alike) := Has.mk' (PySem.W.mg_of X G a__law_alike) F__law_alike (F__law_alike.binds (ps := [("found" : Str), ("due" : Str)]) fun _ _ _ _ _ _ us hl => match us, hl with | [_, _], _ => rfl) (h__law_alike nb F__law_alike)
  have H__law_box : Has l.prog w K mg base 1 ("_law_box" : Str) (spP K 3 p__law_box) := Has.mk' (PySem.W.mg_of X G a__law_box) F__law_box (F__law_box.binds (ps := [("chart" : Str), ("point" : Str), ("stand" : Str)]) fun _ _ _ _ _ _ us hl => match us, hl with | [_, _, _], _ => rfl) (h__law_box nb F__law_box)
  have H__law_meet : Has l.prog w K mg base 1 ("_law_meet" : Str) (spP K 2 p__law_meet) := Has.mk' (PySem.W.mg_of X G a__law_meet) F__law_meet (F__law_meet.binds (ps := [("one" : Str), ("other" : Str)]) fun _ _ _ _ _ _ us hl => match us, hl with | [_, _], _ => rfl) (h__law_meet nb F__law_meet)
  have H__law_covers : Has l.prog w K mg base 1 ("_law_covers" : Str) (spP K 3 p__law_covers) := Has.mk' (PySem.W.mg_of X G a__law_covers) F__law_covers (F__law_covers.binds (ps := [("box" : Str), ("x" : Str), ("y" : Str)]) fun _ _ _ _ _ _ us hl => match us, hl with | [_, _, _], _ => rfl) (h__law_covers nb F__law_covers)
  have H__law_is_open : Has l.prog w K mg base 2 ("_law_is_open" : Str) (spP K 3 p__law_is_open) := Has.mk' (PySem.W.mg_of X G a__law_is_open) F__law_is_open (F__law_is_open.binds (ps := [("chart" : Str), ("point" : Str), ("stand" : Str)]) fun _ _ _ _ _ _ us hl => match us, hl with | [_, _, _], _ => rfl) (h__law_is_open nb F__law_is_open H__law_box H__law_meet H__law_covers)
  have H__law_open : Has l.prog w K mg base 3 ("_law_open" : Str) (spP K 2 p__law_open) := Has.mk' (PySem.W.mg_of X G a__law_open) F__law_open (F__law_open.binds (ps := [("chart" : Str), ("point" : Str)]) fun _ _ _ _ _ _ us hl => match us, hl with | [_, _], _ => rfl) (h__law_open nb F__law_open H__law_is_open)
  have H_stands_of : Has l.prog w K mg base 1 ("stands_of" : Str) (spP K 2 p_stands_of) := Has.mk' (PySem.W.mg_of X G a_stands_of) F_stands_of (F_stands_of.binds (ps := [("chart" : Str), ("point" : Str)]) fun _ _ _ _ _ _ us hl => match us, hl with | [_, _], _ => rfl) (h_stands_of nb F_stands_of)
  have H_box_at : Has l.prog w K mg base 1 ("box_at" : Str) (spP K 5 p_box_at) := Has.mk' (PySem.W.mg_of X G a_box_at) F_box_at (F_box_at.binds (ps := [("x" : Str), ("y" : Str), ("width" : Str), ("height" : Str), ("stand" : Str)]) fun _ _ _ _ _ _ us hl => match us, hl with | [_, _, _, _, _], _ => rfl) (h_box_at nb F_box_at)
  have H_box_of : Has l.prog w K mg base 2 ("box_of" : Str) (spP K 3 p_box_of) := Has.mk' (PySem.W.mg_of X G a_box_of) F_box_of (F_box_of.binds (ps := [("chart" : Str), ("point" : Str), ("stand" : Str)]) fun _ _ _ _ _ _ us hl => match us, hl with | [_, _, _], _ => rfl) (h_box_of nb F_box_of H_box_at)
  have H_do_clash : Has l.prog w K mg base 1 ("do_clash" : Str) (spP K 2 p_do_clash) := Has.mk' (PySem.W.mg_of X G a_do_clash) F_do_clash (F_do_clash.binds (ps := [("one" : Str), ("other" : Str)]) fun _ _ _ _ _ _ us hl => match us, hl with | [_, _], _ => rfl) (h_do_clash nb F_do_clash)
  have H_bars_hit : Has l.prog w K mg base 3 ("bars_hit" : Str) (spP K 3 p_bars_hit) := Has.mk' (PySem.W.mg_of X G a_bars_hit) F_bars_hit (F_bars_hit.binds (ps := [("chart" : Str), ("point" : Str), ("stand" : Str)]) fun _ _ _ _ _ _ us hl => match us, hl with | [_, _, _], _ => rfl) (h_bars_hit nb F_bars_hit H_box_of H_do_clash)
  have H_covers : Has l.prog w K mg base 1 ("covers" : Str) (spP K 3 p_covers) := Has.mk' (PySem.W.mg_of X G a_covers) F_covers (F_covers.binds (ps := [("box" : Str), ("x" : Str), ("y" : Str)]) fun _ _ _ _ _ _ us hl => match us, hl with | [_, _, _], _ => rfl) (h_covers nb F_covers)
  have H_spot : Has l.prog w K mg base 1 ("spot" : Str) (spP K 2 p_spot) := Has.mk' (PySem.W.mg_of X G a_spot) F_spot (F_spot.binds (ps := [("chart" : Str), ("point" : Str)]) fun _ _ _ _ _ _ us hl => match us, hl with | [_, _], _ => rfl) (h_spot nb F_spot)
  have H_points_hit : Has l.prog w K mg base 3 ("points_hit" : Str) (spP K 3 p_points_hit) := Has.mk' (PySem.W.mg_of X G a_points_hit) F_points_hit (F_points_hit.binds (ps := [("chart" : Str), ("point" : Str), ("stand" : Str)]) fun _ _ _ _ _ _ us hl => match us, hl with | [_, _, _], _ => rfl) (h_points_hit nb F_points_hit H_box_of H_covers H_spot)
  have H_is_open : Has l.prog w K mg base 4 ("is_open" : Str) (spP K 3 p_is_open) := Has.mk' (PySem.W.mg_of X G a_is_open) F_is_open (F_is_open.binds (ps := [("chart" : Str), ("point" : Str), ("stand" : Str)]) fun _ _ _ _ _ _ us hl => match us, hl with | [_, _, _], _ => rfl) (h_is_open nb F_is_open H_bars_hit H_points_hit)
  have H_open_stands : Has l.prog w K mg base 5 ("open_stands" : Str) (spP K 2 p_open_stands) := Has.mk' (PySem.W.mg_of X G a_open_stands) F_open_stands (F_open_stands.binds (ps := [("chart" : Str), ("point" : Str)]) fun _ _ _ _ _ _ us hl => match us, hl with | [_, _], _ => rfl) (h_open_stands nb F_open_stands H_stands_of H_is_open)
  have H_all_open : Has l.prog w K mg base 6 ("all_open" : Str) (spP K 1 p_all_open) := Has.mk' (PySem.W.mg_of X G a_all_open) F_all_open (F_all_open.binds (ps := [("chart" : Str)]) fun _ _ _ _ _ _ us hl => match us, hl with | [_], _ => rfl) (h_all_open nb F_all_open H_open_stands)
  have H_names_hit : Has l.prog w K mg base 7 ("names_hit" : Str) (spP K 3 p_names_hit) := Has.mk' (PySem.W.mg_of X G a_names_hit) F_names_hit (F_names_hit.binds (ps := [("chart" : Str), ("point" : Str), ("stand" : Str)]) fun _ _ _ _ _ _ us hl => match us, hl with | [_, _, _], _ => rfl) (h_names_hit nb F_names_hit H_box_of H_do_clash H_all_open)
  have H__law_pair : Has l.prog w K mg base 2 ("_law_pair" : Str) (spP K 5 p__law_pair) := Has.mk' (PySem.W.mg_of X G a__law_pair) F__law_pair (F__law_pair.binds (ps := [("chart" : Str), ("one" : Str), ("stand" : Str), ("other" : Str), ("its" : Str)]) fun _ _ _ _ _ _ us hl => match us, hl with | [_, _, _, _, _], _ => rfl) (h__law_pair nb F__law_pair H__law_box H__law_meet)
  exact (h_law nb F_law H__law_bag H__law_chart H__law_alike H__law_box H__law_meet H__law_covers H__law_open H_bars_hit H_points_hit H_is_open H_open_stands H_all_open H_names_hit H__law_pair).imp (spLaw_of p_law law_go)
theorem walk {l : PySem.W.OpenLaw} {q : Program} {loose : List Str} {XP : (Str → Option Value) → Heap → Prop} {YP : World → Heap → Prop} {d : DefRec} {K : Params → PySem.W.Frag} (hn : l.most = some 63) (hdf : d.params.defaults = [])
    (hY : ∀ (w : World) (h : Heap), YP w h → (K w.params).In h)
    (F : ∀ (w : World) (mg : Str → Option Value) (fa : Addr) (h : Heap), (K w.params).In h → h.Ns mainGlobals mg → mg d.name = some (.ref fa) →
      ∃ fd : FuncData, (∀ (s : Shared) (u : Value), BindsTo s fd ⟨[u], []⟩ [("script", u)]) ∧ ∀ base : Heap, (K w.params).In base → base.Ns mainGlobals mg → FnOk l.prog w (K w.params) mg base CX0 8 fa fd ["script"] (spLaw (K w.params))) :
    PySem.W.WalkO q loose XP YP l.row.toRowW d [] (fun f vs => PySem.call f vs) :=
  L2.walk_of (n := 63) (k := 8) (x := "script") (CX := fun _ => CX0) (sp := fun w => spLaw (K w.params)) hn (by decide) hdf ⟨rfl, by decide, by decide⟩ hY F (fun _ _ a ns hl _ hS => ⟨a, ns, rfl, hS, hl, fun _ => rfl⟩) fun _ _ _ _ _ z => z
end L2.DL.k07
open PySem PySem.W PyProof.Rows
set_option maxRecDepth 100000 in
set_option maxHeartbeats 0 in
theorem PySem.Challenge.cw_namesfit_k07_open_stands_and_what_they_h_holds : PySem.Challenge.rw_namesfit_k07_open_stands_and_what_they_h.Holds := by
  w_on; o_law; k_head; (case hw => w_witness2)
  k_fill
  refine L2.DL.k07.walk (l := PySem.Challenge.rw_namesfit_k07_open_stands_and_what_they_h) rfl rfl (fun w h Y => PySem.W.kIn_of Y) ?F
  case F =>
    intro w mg fa h KX G hmg
    refine' L2.DL.k07.all_mk KX G hmg (L2.DL.Def.mk' ?a0 ?l0 ?c0 ?k0) (L2.DL.Def.mk' ?a1 ?l1 ?c1 ?k1) (L2.DL.Def.mk' ?a2 ?l2 ?c2 ?k2) (L2.DL.Def.mk' ?a3 ?l3 ?c3 ?k3) (L2.DL.Def.mk' ?a4 ?l4 ?c4 ?k4) (L2.DL.Def.mk' ?a5 ?l5 ?c5 ?k5) (L2.DL.Def.mk' ?a6 ?l6 ?c6 ?k6) (L2.DL.Def.mk' ?a7 ?l7 ?c7 ?k7) (L2.DL.Def.mk' ?a8 ?l8 ?c8 ?k8) (L2.DL.Def.mk' ?a9 ?l9 ?c9 ?k9) (L2.DL.Def.mk' ?a10 ?l10 ?c10 ?k10) (L2.DL.Def.mk' ?a11 ?l11 ?c11 ?k11) (L2.DL.Def.mk' ?a12 ?l12 ?c12 ?k12) (L2.DL.Def.mk' ?a13 ?l13 ?c13 ?k13) (L2.DL.Def.mk' ?a14 ?l14 ?c14 ?k14) (L2.DL.Def.mk' ?a15 ?l15 ?c15 ?k15) (L2.DL.Def.mk' ?a16 ?l16 ?c16 ?k16) (L2.DL.Def.mk' ?a17 ?l17 ?c17 ?k17) (L2.DL.Def.mk' ?a18 ?l18 ?c18 ?k18) (L2.DL.Def.mk' ?a19 ?l19 ?c19 ?k19) (L2.DL.Def.mk' ?a20 ?l20 ?c20 ?k20) (L2.DL.Def.mk' ?a21 ?l21 ?c21 ?k21) (L2.DL.Def.mk' ?a22 ?l22 ?c22 ?k22) (L2.DL.Def.mk' ?a23 ?l23 ?c23 ?k23) (L2.DL.Def.mk' ?a24 ?l24 ?c24 ?k24) (L2.DL.Def.mk' ?a25 ?l25 ?c25 ?k25) ?z0 ?z1 ?z2 ?z3 ?z4 ?z5 ?z6 ?z7 ?z8 ?z9 ?z10 ?z11 ?z12 ?z13
    (case a0 => k_is); (case l0 => k_is); (case c0 => k_is); (case k0 => k_is)
    (case a1 => k_is); (case l1 => k_is); (case c1 => k_is); (case k1 => k_is)
    (case a2 => k_is); (case l2 => k_is); (case c2 => k_is); (case k2 => k_is)
    (case a3 => k_is); (case l3 => k_is); (case c3 => k_is); (case k3 => k_is)
    (case a4 => k_is); (case l4 => k_is); (case c4 => k_is); (case k4 => k_is)
    (case a5 => k_is); (case l5 => k_is); (case c5 => k_is); (case k5 => k_is)
    (case a6 => k_is); (case l6 => k_is); (case c6 => k_is); (case k6 => k_is)
    (case a7 => k_is); (case l7 => k_is); (case c7 => k_is); (case k7 => k_is)
    (case a8 => k_is); (case l8 => k_is); (case c8 => k_is); (case k8 => k_is)
    (case a9 => k_is); (case l9 => k_is); (case c9 => k_is); (case k9 => k_is)
    (case a10 => k_is); (case l10 => k_is); (case c10 => k_is); (case k10 => k_is)
    (case a11 => k_is); (case l11 => k_is); (case c11 => k_is); (case k11 => k_is)
    (case a12 => k_is); (case l12 => k_is); (case c12 => k_is); (case k12 => k_is)
    (case a13 => k_is); (case l13 => k_is); (case c13 => k_is); (case k13 => k_is)
    (case a14 => k_is); (case l14 => k_is); (case c14 => k_is); (case k14 => k_is)
    (case a15 => k_is); (case l15 => k_is); (case c15 => k_is); (case k15 => k_is)
    (case a16 => k_is); (case l16 => k_is); (case c16 => k_is); (case k16 => k_is)
    (case a17 => k_is); (case l17 => k_is); (case c17 => k_is); (case k17 => k_is)
    (case a18 => k_is); (case l18 => k_is); (case c18 => k_is); (case k18 => k_is)
    (case a19 => k_is); (case l19 => k_is); (case c19 => k_is); (case k19 => k_is)
    (case a20 => k_is); (case l20 => k_is); (case c20 => k_is); (case k20 => k_is)
    (case a21 => k_is); (case l21 => k_is); (case c21 => k_is); (case k21 => k_is)
    (case a22 => k_is); (case l22 => k_is); (case c22 => k_is); (case k22 => k_is)
    (case a23 => k_is); (case l23 => k_is); (case c23 => k_is); (case k23 => k_is)
    (case a24 => k_is); (case l24 => k_is); (case c24 => k_is); (case k24 => k_is)
    (case a25 => k_is); (case l25 => k_is); (case c25 => k_is); (case k25 => k_is)
    (case z0 => k_is)
    (case z1 => k_is)
    (case z2 => k_is)
    (case z3 => k_is)
    (case z4 => k_is)
    (case z5 => k_is)
    (case z6 => k_is)
    (case z7 => k_is)
    (case z8 => k_is)
    (case z9 => k_is)
    (case z10 => k_is)
    (case z11 => k_is)
    (case z12 => k_is)
    (case z13 => k_is)
