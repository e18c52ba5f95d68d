import PyProof.Rows.All
import Wide.All
import OpenK.AllK
import Wide.FinOn
import HandS.ForMost
import HandS.ForExc
import HandS.ExcCtx
import HandS.Lambda
import KE.DataEq
import HandS.Dict
import HandS.WordsDict
import HandS.More
import HandS.ListItems
import HandS.TupAny
import HandS.TupMul
import KE.DataCmp
import KE.SortData
import KE.DataMinMax
import HandS.IsInst
import HandS.Style
import HandS.Walk
import HandS.Zip
import KE.GoesZip
import KE.GoesEnum
import KE.KDictZip
import KE.KDictItemsList
import PyProof.Claim2Refuses
import HandS.Conv
import KE.KExcSuper
import HandS.ExcInit
import HandS.ExcField
import HandS.Star
import HandS.DictComp
import HandS.Strs
import HandS.SetFor
import KE.KRevSl
import HandS.EndTab
import HandS.EndBits
import PyProof.ReprRoads
import PySem.Challenge.RW_namesfit_k48_names_that_part_as_one_zoom
set_option Elab.async false
set_option linter.all false
set_option maxRecDepth 100000
set_option maxHeartbeats 4000000
set_option autoImplicit false
set_option Elab.async false
namespace L2.DL
open PySem PySem.Spec PyProof.Rows

/-! ## data, environments, results -/
abbrev D := PyData
/-- what a def makes and changes in place -/
inductive OB where
  | lst (xs : List D)
  | dic (kvs : List (D × D))
  | set (xs : List Int)
/-- what a slot holds: data; an object of the def's own (true: lent by the caller); a caught exception; a thing that is not told -/
inductive Sl where
  | dat (d : D)
  | ob (b : Bool) (o : OB)
  | exn (c : Str) (fs : List (Str × D))
  | raw
abbrev Sl.own (b : Bool) (xs : List D) : Sl := .ob b (.lst xs)
abbrev DEnv := List (Option Sl)
inductive Err where
  | stuck
  | exc (c : Str) (fs : List (Str × D)) (ρ : DEnv)
abbrev Res := Except Err
abbrev stuck {α : Type} : Res α := .error .stuck

/-! ## a value stands for data; nothing on the way stands at an address of M -/
def kD : Key → D
  | .inl i => .int i
  | .inr x => .str x
mutual
inductive Rp (K : PySem.W.Frag) (M : Addr → Prop) (H : Hp) : V → D → Prop
  | non : Rp K M H .non .none
  | bl (b : Bool) : Rp K M H (.bl b) (.bool b)
  | int (i : Int) : Rp K M H (.int i) (.int i)
  | str (x : Str) : Rp K M H (.str x) (.str x)
  | lst {a : Addr} {xs : List V} {ds : List D} : ¬ M a → SqL K H a xs → RpA K M H xs ds → Rp K M H (.ref a) (.list ds)
  | tup {a : Addr} {xs : List V} {ds : List D} : ¬ M a → SqT K H a xs → RpA K M H xs ds → Rp K M H (.ref a) (.tuple ds)
  | dicK {a : Addr} {kvs : List (Key × V)} {ds : List (D × D)} : ¬ M a → H a = some (.dK kvs) → RpK K M H (kvs.map fun p => (kD p.1, p.2)) ds → Rp K M H (.ref a) (.dict ds)
inductive RpA (K : PySem.W.Frag) (M : Addr → Prop) (H : Hp) : List V → List D → Prop
  | nil : RpA K M H [] []
  | cons {v : V} {vs : List V} {d : D} {ds : List D} : Rp K M H v d → RpA K M H vs ds → RpA K M H (v :: vs) (d :: ds)
inductive RpK (K : PySem.W.Frag) (M : Addr → Prop) (H : Hp) : List (D × V) → List (D × D) → Prop
  | nil : RpK K M H [] []
  | cons {k : D} {v : V} {vs : List (D × V)} {d : D} {ds : List (D × D)} : Rp K M H v d → RpK K M H vs ds → RpK K M H ((k, v) :: vs) ((k, d) :: ds)
end

def Keeps (M : Addr → Prop) (H H' : Hp) : Prop := ∀ a o, ¬ M a → H a = some o → H' a = some o
theorem sqL_keep {K : PySem.W.Frag} {H H' : Hp} {a : Addr} {xs : List V} (k : ∀ o, H a = some o → H' a = some o) (h : SqL K H a xs) : SqL K H' a xs := by
  rcases h with (h | ⟨o, h⟩) | h
  · exact .inl (.inl (k _ h))
  · exact .inl (.inr ⟨o, k _ h⟩)
  · exact .inr h
theorem rd_keep {H H' : Hp} {a : Addr} {u : HO} (k : ∀ o, H a = some o → H' a = some o) (h : Rd H a u) : Rd H' a u := by
  rcases h with h | ⟨o, h⟩
  · exact .inl (k _ h)
  · exact .inr ⟨o, k _ h⟩
theorem sqT_keep {K : PySem.W.Frag} {H H' : Hp} {a : Addr} {xs : List V} (k : ∀ o, H a = some o → H' a = some o) (h : SqT K H a xs) : SqT K H' a xs := by
  rcases h with (h | ⟨o, h⟩) | h
  · exact .inl (.inl (k _ h))
  · exact .inl (.inr ⟨o, k _ h⟩)
  · exact .inr h
section
variable {K : PySem.W.Frag} {M M' : Addr → Prop} {H H' : Hp}
-- what carries a relation over: each address on the way stays off, and its object stays
mutual
theorem Rp.move (t : ∀ a, ¬ M a → (H a ≠ none ∨ K.lookup a ≠ none) → ¬ M' a ∧ ∀ o, H a = some o → H' a = some o) : ∀ {v : V} {d : D}, Rp K M H v d → Rp K M' H' v d
  | _, _, .non => .non
  | _, _, .bl b => .bl b
  | _, _, .int i => .int i
  | _, _, .str x => .str x
  | _, _, .lst n q r => by
    have z := t _ n (by
      rcases q with (q | ⟨o, q⟩) | ⟨o, _, _, q, _⟩
      · exact .inl (by rw [q]; exact fun z => nomatch z)
      · exact .inl (by rw [q]; exact fun z => nomatch z)
      · exact .inr (by rw [q]; exact fun z => nomatch z))
    exact .lst z.1 (sqL_keep z.2 q) (RpA.move t r)
  | _, _, .tup n q r => by
    have z := t _ n (by
      rcases q with (q | ⟨o, q⟩) | ⟨o, _, _, q, _⟩
      · exact .inl (by rw [q]; exact fun z => nomatch z)
      · exact .inl (by rw [q]; exact fun z => nomatch z)
      · exact .inr (by rw [q]; exact fun z => nomatch z))
    exact .tup z.1 (sqT_keep z.2 q) (RpA.move t r)
  | _, _, .dicK n q r => by
    have z := t _ n (.inl (by rw [q]; exact fun z => nomatch z))
    exact .dicK z.1 (z.2 _ q) (RpK.move t r)
theorem RpA.move (t : ∀ a, ¬ M a → (H a ≠ none ∨ K.lookup a ≠ none) → ¬ M' a ∧ ∀ o, H a = some o → H' a = some o) : ∀ {vs : List V} {ds : List D}, RpA K M H vs ds → RpA K M' H' vs ds
  | _, _, .nil => .nil
  | _, _, .cons h1 h2 => .cons (Rp.move t h1) (RpA.move t h2)
theorem RpK.move (t : ∀ a, ¬ M a → (H a ≠ none ∨ K.lookup a ≠ none) → ¬ M' a ∧ ∀ o, H a = some o → H' a = some o) : ∀ {vs : List (D × V)} {ds : List (D × D)}, RpK K M H vs ds → RpK K M' H' vs ds
  | _, _, .nil => .nil
  | _, _, .cons h1 h2 => .cons (Rp.move t h1) (RpK.move t h2)
end

theorem Rp.mono (hM : ∀ a, M' a → M a) (k : Keeps M H H') {v : V} (d : D) (h : Rp K M H v d) : Rp K M' H' v d := h.move fun a n _ => ⟨fun z => n (hM a z), fun o => k a o n⟩
theorem RpA.mono (hM : ∀ a, M' a → M a) (k : Keeps M H H') {vs : List V} (ds : List D) (h : RpA K M H vs ds) : RpA K M' H' vs ds := h.move fun a n _ => ⟨fun z => n (hM a z), fun o => k a o n⟩
theorem RpK.mono (hM : ∀ a, M' a → M a) (k : Keeps M H H') {vs : List (D × V)} (ds : List (D × D)) (h : RpK K M H vs ds) : RpK K M' H' vs ds := h.move fun a n _ => ⟨fun z => n (hM a z), fun o => k a o n⟩
theorem Keeps.same (s : Same H H') : Keeps M H H' := fun a o _ e => s a o e
theorem Rp.same {v : V} {d : D} (h : Rp K M H v d) (s : Same H H') : Rp K M H' v d := h.mono (fun _ z => z) (Keeps.same s)
theorem RpA.same {vs : List V} {ds : List D} (h : RpA K M H vs ds) (s : Same H H') : RpA K M H' vs ds := h.mono (fun _ z => z) (Keeps.same s)
theorem RpK.same {vs : List (D × V)} {ds : List (D × D)} (h : RpK K M H vs ds) (s : Same H H') : RpK K M H' vs ds := h.mono (fun _ z => z) (Keeps.same s)
theorem Rp.weak {v : V} {d : D} (h : Rp K M H v d) (hM : ∀ a, M' a → M a) : Rp K M' H v d := h.mono hM fun _ _ _ e => e
theorem RpA.weak {vs : List V} {ds : List D} (h : RpA K M H vs ds) (hM : ∀ a, M' a → M a) : RpA K M' H vs ds := h.mono hM fun _ _ _ e => e
theorem RpK.weak {vs : List (D × V)} {ds : List (D × D)} (h : RpK K M H vs ds) (hM : ∀ a, M' a → M a) : RpK K M' H vs ds := h.mono hM fun _ _ _ e => e
theorem RpA.len : ∀ {vs : List V} {ds : List D}, RpA K M H vs ds → vs.length = ds.length
  | _, _, .nil => rfl
  | _, _, .cons _ t => congrArg (· + 1) t.len
theorem RpA.get : ∀ {vs : List V} {ds : List D} {i : Nat} {v : V}, RpA K M H vs ds → vs[i]? = some v → ∃ d, ds[i]? = some d ∧ Rp K M H v d
  | _, _, _, _, .nil, e => by simp at e
  | _, _, 0, _, .cons r _, e => by simp at e; subst e; exact ⟨_, rfl, r⟩
  | _, _, i + 1, _, .cons _ t, e => by
    obtain ⟨d, h1, h2⟩ := RpA.get (i := i) t (by simpa using e)
    exact ⟨d, by simpa using h1, h2⟩
theorem RpA.getD : ∀ {vs : List V} {ds : List D} {i : Nat} {d : D}, RpA K M H vs ds → ds[i]? = some d → ∃ v, vs[i]? = some v ∧ Rp K M H v d
  | _, _, _, _, .nil, e => by simp at e
  | _, _, 0, _, .cons r _, e => by simp at e; subst e; exact ⟨_, rfl, r⟩
  | _, _, i + 1, _, .cons _ t, e => by
    obtain ⟨d, h1, h2⟩ := RpA.getD (i := i) t (by simpa using e)
    exact ⟨d, by simpa using h1, h2⟩
theorem RpA.append : ∀ {vs ws : List V} {ds es : List D}, RpA K M H vs ds → RpA K M H ws es → RpA K M H (vs ++ ws) (ds ++ es)
  | _, _, _, _, .nil, q => q
  | _, _, _, _, .cons r t, q => .cons r (t.append q)
theorem RpA.take : ∀ {vs : List V} {ds : List D} (n : Nat), RpA K M H vs ds → RpA K M H (vs.take n) (ds.take n)
  | _, _, 0, _ => .nil
  | _, _, _ + 1, .nil => .nil
  | _, _, n + 1, .cons r t => .cons r (t.take n)
theorem RpA.drop : ∀ {vs : List V} {ds : List D} (n : Nat), RpA K M H vs ds → RpA K M H (vs.drop n) (ds.drop n)
  | _, _, 0, r => r
  | _, _, _ + 1, .nil => .nil
  | _, _, n + 1, .cons _ t => t.drop n
theorem RpA.set {v : V} {d : D} (r : Rp K M H v d) : ∀ {vs : List V} {ds : List D} (i : Nat), RpA K M H vs ds → RpA K M H (vs.set i v) (ds.set i d)
  | _, _, _, .nil => .nil
  | _, _, 0, .cons _ t => .cons r t
  | _, _, i + 1, .cons q t => .cons q (RpA.set r i t)
theorem RpA.one {v : V} {d : D} (r : Rp K M H v d) : RpA K M H [v] [d] := .cons r .nil
theorem Rp.none_inv {v : V} (h : Rp K M H v .none) : v = .non := by cases h; rfl
theorem Rp.bool_inv {v : V} {b : Bool} (h : Rp K M H v (.bool b)) : v = .bl b := by cases h; rfl
theorem Rp.int_inv {v : V} {i : Int} (h : Rp K M H v (.int i)) : v = .int i := by cases h; rfl
theorem Rp.str_inv {v : V} {x : Str} (h : Rp K M H v (.str x)) : v = .str x := by cases h; rfl
theorem Rp.list_inv {v : V} {ds : List D} (h : Rp K M H v (.list ds)) : ∃ a xs, v = .ref a ∧ ¬ M a ∧ SqL K H a xs ∧ RpA K M H xs ds := by
  cases h with
  | lst n q r => exact ⟨_, _, rfl, n, q, r⟩
theorem Rp.tup_inv {v : V} {ds : List D} (h : Rp K M H v (.tuple ds)) : ∃ a xs, v = .ref a ∧ ¬ M a ∧ SqT K H a xs ∧ RpA K M H xs ds := by
  cases h with
  | tup n q r => exact ⟨_, _, rfl, n, q, r⟩
-- data without dicts, for HandS's own relation
mutual
theorem Rp.dp : ∀ {v : V} {d : D}, PyData.plain d = true → Rp K M H v d → Dp K H v d
  | _, _, _, .non => .non
  | _, _, _, .bl b => .bl b
  | _, _, _, .int i => .int i
  | _, _, _, .str x => .str x
  | _, _, e, .lst _ q r => .lst q (RpA.dp (by simpa [PyData.plain] using e) r)
  | _, _, e, .tup _ q r => .tup q (RpA.dp (by simpa [PyData.plain] using e) r)
  | _, _, e, .dicK _ _ _ => by simp [PyData.plain] at e
theorem RpA.dp : ∀ {vs : List V} {ds : List D}, PyData.plainAll ds = true → RpA K M H vs ds → DpAll K H vs ds
  | _, _, _, .nil => .nil
  | _, _, e, .cons h1 h2 => by
    rw [PyData.plainAll, Bool.and_eq_true] at e
    exact .cons (Rp.dp e.1 h1) (RpA.dp e.2 h2)
end
/-- an address that stands nowhere is on no way -/
theorem off_move {a : Addr} (hK : K.lookup a = none) (hH : H a = none) : ∀ b, ¬ M b → (H b ≠ none ∨ K.lookup b ≠ none) → ¬ (M b ∨ b = a) ∧ ∀ o, H b = some o → H b = some o := fun b n z => ⟨fun w => w.elim n fun e => by
  subst e
  rcases z with z | z
  · exact z hH
  · exact z hK, fun _ e => e⟩
theorem Rp.off {a : Addr} (hK : K.lookup a = none) (hH : H a = none) {v : V} (d : D) (h : Rp K M H v d) : Rp K (fun b => M b ∨ b = a) H v d := h.move (off_move hK hH)
theorem RpA.off {a : Addr} (hK : K.lookup a = none) (hH : H a = none) {vs : List V} (ds : List D) (h : RpA K M H vs ds) : RpA K (fun b => M b ∨ b = a) H vs ds := h.move (off_move hK hH)
theorem RpK.off {a : Addr} (hK : K.lookup a = none) (hH : H a = none) {vs : List (D × V)} (ds : List (D × D)) (h : RpK K M H vs ds) : RpK K (fun b => M b ∨ b = a) H vs ds := h.move (off_move hK hH)

/-! ## an object of the def's own; an exception -/
inductive RpO (K : PySem.W.Frag) (M : Addr → Prop) (H : Hp) : HO → OB → Prop
  | lst {xs : List V} {ds : List D} : RpA K M H xs ds → RpO K M H (.lst xs) (.lst ds)
  | dicK {kvs : List (Key × V)} {ds : List (D × D)} : RpK K M H (kvs.map fun p => (kD p.1, p.2)) ds → RpO K M H (.dK kvs) (.dic ds)
  | set {S : Int → Bool} {n : Nat} {xs : List Int} : (∀ i, S i = decide (i ∈ xs)) → n = xs.length → xs.Nodup → RpO K M H (.set S n) (.set xs)
theorem RpO.move (t : ∀ a, ¬ M a → (H a ≠ none ∨ K.lookup a ≠ none) → ¬ M' a ∧ ∀ o, H a = some o → H' a = some o) {o : HO} {b : OB} (h : RpO K M H o b) : RpO K M' H' o b := by
  cases h with
  | lst r => exact .lst (r.move t)
  | dicK r => exact .dicK (r.move t)
  | set h1 h2 h3 => exact .set h1 h2 h3
theorem RpO.mono (hM : ∀ a, M' a → M a) (k : Keeps M H H') {o : HO} {b : OB} (h : RpO K M H o b) : RpO K M' H' o b := h.move fun a n _ => ⟨fun z => n (hM a z), fun o => k a o n⟩
theorem RpO.same {o : HO} {b : OB} (h : RpO K M H o b) (s : Same H H') : RpO K M H' o b := h.mono (fun _ z => z) (Keeps.same s)
theorem RpO.weak {o : HO} {b : OB} (h : RpO K M H o b) (hM : ∀ a, M' a → M a) : RpO K M' H o b := h.mono hM fun _ _ _ e => e
/-- what is changed is no code object, no dict of an exception -/
def plainO : HO → Bool
  | .lst _ => true
  | .dK _ => true
  | .dT _ => true
  | .set _ _ => true
  | _ => false
theorem RpO.plain {o : HO} {b : OB} (h : RpO K M H o b) : plainO o = true := by cases h <;> rfl
/-- the class of a name -/
def clsAt (K : PySem.W.Frag) (c : Str) (C : Addr) : Prop := PySem.W.nsIn K mainGlobals c = some (some (.ref C))
/-- an exception's class and fields -/
def XRep (K : PySem.W.Frag) (M : Addr → Prop) (H : Hp) (cls : Value) (d : Option Addr) (c : Str) (fs : List (Str × D)) : Prop :=
  ∃ C, clsAt K c C ∧ cls = .ref C ∧ ((fs = [] ∧ d = none) ∨ ∃ dd vs l, d = some dd ∧ ¬ M dd ∧ H dd = some (.xd l) ∧ (∀ f, l.lookup f = ((fs.map (·.1)).zip vs).lookup f) ∧ RpA K M H vs (fs.map (·.2)))
theorem XRep.move (t : ∀ a, ¬ M a → (H a ≠ none ∨ K.lookup a ≠ none) → ¬ M' a ∧ ∀ o, H a = some o → H' a = some o) {cls : Value} {d : Option Addr} {c : Str} {fs : List (Str × D)} (h : XRep K M H cls d c fs) : XRep K M' H' cls d c fs := by
  obtain ⟨C, h1, h2, h3 | ⟨dd, vs, l, h3, h4, h5, h7, h6⟩⟩ := h
  · exact ⟨C, h1, h2, .inl h3⟩
  · have z := t dd h4 (.inl (by rw [h5]; exact fun z => nomatch z))
    exact ⟨C, h1, h2, .inr ⟨dd, vs, l, h3, z.1, z.2 _ h5, h7, h6.move t⟩⟩
theorem XRep.mono (hM : ∀ a, M' a → M a) (k : Keeps M H H') {cls : Value} {d : Option Addr} {c : Str} {fs : List (Str × D)} (h : XRep K M H cls d c fs) : XRep K M' H' cls d c fs := h.move fun a n _ => ⟨fun z => n (hM a z), fun o => k a o n⟩
theorem XRep.same {cls : Value} {d : Option Addr} {c : Str} {fs : List (Str × D)} (h : XRep K M H cls d c fs) (s : Same H H') : XRep K M H' cls d c fs := h.mono (fun _ z => z) (Keeps.same s)
theorem XRep.weak {cls : Value} {d : Option Addr} {c : Str} {fs : List (Str × D)} (h : XRep K M H cls d c fs) (hM : ∀ a, M' a → M a) : XRep K M' H cls d c fs := h.mono hM fun _ _ _ e => e
end

/-! ## the written part is not tracked -/
def KF (K : PySem.W.Frag) (H : Hp) : Prop := ∀ a o, K.lookup a = some o → H a = none
theorem kf_of {X : Cx} {pins : List (Addr × Obj)} {σ : St} {H : Hp} {s : Shared} (I : Inv X pins σ H s) : KF X.K H := fun a o e => (I.bs a o (I.ok.mod.kin a o e)).2
theorem KF.free {K : PySem.W.Frag} {H : Hp} (k : KF K H) {a : Addr} {o : HO} (h : H a = some o) : K.lookup a = none := by
  cases e : K.lookup a with
  | none => rfl
  | some u =>
    rw [k a u e] at h
    cases h

/-! ## how the slots and the heap stand for an environment -/
/-- what is known of the heap beside: it stays as long as nothing but plain objects is written -/
structure Kn where
  P : (Addr → Prop) → (Addr → HO → Prop) → Hp → Prop
  st : ∀ (M M' : Addr → Prop) (fx fx' : Addr → HO → Prop) (H H' : Hp), (∀ a, M' a → M a ∨ ∃ o, H' a = some o ∧ plainO o = true) → (∀ a o, fx' a o → fx a o ∨ plainO o = true) →
    (∀ a o, H a = some o → H' a = some o ∨ (plainO o = true ∧ ∃ o', H' a = some o' ∧ plainO o' = true)) → P M fx H → P M' fx' H'
theorem Kn.same (k : Kn) {M : Addr → Prop} {fx : Addr → HO → Prop} {H H' : Hp} (h : k.P M fx H) (s : Same H H') : k.P M fx H' := k.st _ _ _ _ _ _ (fun _ z => .inl z) (fun _ _ z => .inl z) (fun a o e => .inl (s a o e)) h
theorem Kn.fx (k : Kn) {M M' : Addr → Prop} {fx fx' : Addr → HO → Prop} {H : Hp} (h : k.P M fx H) (hM : ∀ a, M' a → M a) (hx : ∀ a o, fx' a o → fx a o ∨ plainO o = true) : k.P M' fx' H := k.st _ _ _ _ _ _ (fun a z => .inl (hM a z)) hx (fun _ _ e => .inl e) h
theorem Kn.wr (k : Kn) {M : Addr → Prop} {fx : Addr → HO → Prop} {H : Hp} {a : Addr} {u u' : HO} (h : k.P M fx H) (ha : H a = some u) (hu : plainO u = true) (hu' : plainO u' = true) : k.P M fx (upd H a u') := k.st _ _ _ _ _ _ (fun _ z => .inl z) (fun _ _ z => .inl z) (fun b o e => by
  by_cases q : b = a
  · subst q
    rw [ha] at e
    cases e
    exact .inr ⟨hu, u', upd_same, hu'⟩
  · exact .inl (by rw [upd_ne q]; exact e)) h
theorem Kn.add (k : Kn) {M : Addr → Prop} {fx : Addr → HO → Prop} {H : Hp} {a : Addr} {u : HO} (h : k.P M fx H) (hp : H a = none) (hu : plainO u = true) : k.P (fun b => M b ∨ b = a) fx (upd H a u) := k.st _ _ _ _ _ _ (fun b z => z.imp id fun e => ⟨u, by rw [e]; exact upd_same, hu⟩) (fun _ _ z => .inl z)
  (fun b o e => .inl (by rw [upd_ne (ne_of_none e hp)]; exact e)) h
def Kn0 : Kn := ⟨fun _ _ _ => True, fun _ _ _ _ _ _ _ _ _ _ => True.intro⟩
structure Jx where
  W : WX
  hk : Option (Addr × Value × Option Addr)
  th : Option (Nat × V)
  kn : Kn
def J0 : Jx := ⟨fun _ _ _ _ => False, none, none, Kn0⟩
def Jx.bot (J : Jx) : Jx := { J with W := fun _ _ _ _ => False }
structure Gh where
  M : Addr → Prop
  B : Addr → Prop
  fx : Addr → HO → Prop
  hd : V → D → Prop
def OwnAt (ρ : DEnv) (σ : St) (i : Nat) (a : Addr) : Prop := ∃ (b : Bool) (o : OB), ρ[i]? = some (some (Sl.ob b o)) ∧ σ[i]? = some (some (V.ref a))
def MM (G : Gh) (ρ : DEnv) (σ : St) (a : Addr) : Prop := G.M a ∨ ∃ i, OwnAt ρ σ i a

structure Rel (K : PySem.W.Frag) (J : Jx) (G : Gh) (ρ : DEnv) (σ : St) (H : Hp) : Prop where
  len : ρ.length = σ.length
  kf : KF K H
  dom : ∀ a, G.M a → H a ≠ none
  dat : ∀ (i : Nat) (d : D), ρ[i]? = some (some (Sl.dat d)) → ∃ v, σ[i]? = some (some v) ∧ Rp K (MM G ρ σ) H v d
  own : ∀ (i : Nat) (b : Bool) (o : OB), ρ[i]? = some (some (Sl.ob b o)) → ∃ a u, σ[i]? = some (some (V.ref a)) ∧ H a = some u ∧ RpO K (MM G ρ σ) H u o ∧ ¬ G.M a ∧ (b = true → G.B a) ∧ ∀ o, ¬ G.fx a o
  sep : ∀ i j a, OwnAt ρ σ i a → OwnAt ρ σ j a → i = j
  held : ∀ v d, G.hd v d → Rp K (MM G ρ σ) H v d
  keep : ∀ a o, G.fx a o → H a = some o
  exn : ∀ (i : Nat) (c : Str) (fs : List (Str × D)), ρ[i]? = some (some (Sl.exn c fs)) → ∃ a cls d, J.hk = some (a, cls, d) ∧ σ[i]? = some (some (V.ref a)) ∧ XRep K (MM G ρ σ) H cls d c fs
  raw : ∀ (i : Nat), ρ[i]? = some (some Sl.raw) → ∃ v, J.th = some (i, v) ∧ σ[i]? = some (some v)
  kn : J.kn.P G.M G.fx H

/-- more values are held -/
def Gh.hold (G : Gh) (v : V) (d : D) : Gh := { G with hd := fun x e => G.hd x e ∨ (x = v ∧ e = d) }
/-- more addresses are kept away from -/
def Gh.add (G : Gh) (a : Addr) : Gh := { G with M := fun b => G.M b ∨ b = a }

section
variable {K : PySem.W.Frag} {J : Jx} {G : Gh} {ρ : DEnv} {σ : St} {H H' : Hp} {v : V} {d : D} {a : Addr}
theorem Rel.nown (R : Rel K J G ρ σ H) {p : Addr} (hp : H p = none) : ¬ MM G ρ σ p := by
  rintro (z | ⟨i, b, o, h1, h2⟩)
  · exact R.dom p z hp
  · obtain ⟨a, u, e, ha, _⟩ := R.own i b o h1
    rw [h2] at e
    cases e
    rw [hp] at ha
    cases ha
theorem Rel.same (R : Rel K J G ρ σ H) (kf : KF K H') (s : Same H H') : Rel K J G ρ σ H' := by
  refine ⟨R.len, kf, fun a z e => ?_, fun i d h => ?_, fun i b xs h => ?_, R.sep, fun v d h => (R.held v d h).same s, fun a o h => s a o (R.keep a o h), fun i c fs h => ?_, R.raw, J.kn.same R.kn s⟩
  · cases q : H a with
    | none => exact R.dom a z q
    | some o => rw [s a o q] at e; cases e
  · obtain ⟨v, h1, h2⟩ := R.dat i d h
    exact ⟨v, h1, h2.same s⟩
  · obtain ⟨a, vs, h1, h2, h3, h4, h5, h6⟩ := R.own i b xs h
    exact ⟨a, vs, h1, s _ _ h2, h3.same s, h4, h5, h6⟩
  · obtain ⟨a, cls, d, h1, h2, h3⟩ := R.exn i c fs h
    exact ⟨a, cls, d, h1, h2, h3.same s⟩
theorem Rel.hold (R : Rel K J G ρ σ H) (h : Rp K (MM G ρ σ) H v d) : Rel K J (G.hold v d) ρ σ H :=
  ⟨R.len, R.kf, R.dom, R.dat, R.own, R.sep, fun x e z => by
    rcases z with z | ⟨rfl, rfl⟩
    · exact R.held x e z
    · exact h, R.keep, R.exn, R.raw, R.kn⟩
theorem Rel.unhold (R : Rel K J (G.hold v d) ρ σ H) : Rel K J G ρ σ H ∧ Rp K (MM G ρ σ) H v d :=
  ⟨⟨R.len, R.kf, R.dom, R.dat, R.own, R.sep, fun x e z => R.held x e (.inl z), R.keep, R.exn, R.raw, R.kn⟩, R.held v d (.inr ⟨rfl, rfl⟩)⟩
theorem Rel.unadd (R : Rel K J (G.add a) ρ σ H) : Rel K J G ρ σ H := by
  have w : ∀ b, MM G ρ σ b → MM (G.add a) ρ σ b := fun b z => z.imp .inl id
  refine ⟨R.len, R.kf, fun b z => R.dom b (.inl z), fun i d h => ?_, fun i b xs h => ?_, R.sep, fun x e z => (R.held x e z).weak w, R.keep, fun i c fs h => ?_, R.raw, J.kn.fx R.kn (fun b z => .inl z) fun _ _ z => .inl z⟩
  · obtain ⟨v, h1, h2⟩ := R.dat i d h
    exact ⟨v, h1, h2.weak w⟩
  · obtain ⟨c, vs, h1, h2, h3, h4, h5, h6⟩ := R.own i b xs h
    exact ⟨c, vs, h1, h2, h3.weak w, fun z => h4 (.inl z), h5, h6⟩
  · obtain ⟨a, cls, d, h1, h2, h3⟩ := R.exn i c fs h
    exact ⟨a, cls, d, h1, h2, h3.weak w⟩
theorem mm_add {b : Addr} : MM (G.add a) ρ σ b ↔ (MM G ρ σ b ∨ b = a) := by
  constructor
  · rintro ((z | z) | z)
    · exact .inl (.inl z)
    · exact .inr z
    · exact .inl (.inr z)
  · rintro ((z | z) | z)
    · exact .inl (.inl z)
    · exact .inr z
    · exact .inl (.inr z)
/-- a fresh object is laid: all else keeps away from it -/
theorem Rel.fresh (R : Rel K J G ρ σ H) {o : HO} (hp : H a = none) (kf : KF K (upd H a o)) (pl : plainO o = true := by rfl) : Rel K J (G.add a) ρ σ (upd H a o) := by
  have s : Same H (upd H a o) := fun b u e => by rw [upd_ne (ne_of_none e hp)]; exact e
  have hK : K.lookup a = none := kf.free upd_same
  have w : ∀ b, MM (G.add a) ρ σ b → (MM G ρ σ b ∨ b = a) := fun b z => mm_add.mp z
  have mv : ∀ b, ¬ MM G ρ σ b → (H b ≠ none ∨ K.lookup b ≠ none) → ¬ MM (G.add a) ρ σ b ∧ ∀ u, H b = some u → upd H a o b = some u := fun b n z => ⟨fun q => (off_move hK hp b n z).1 (w b q), fun u e => s b u e⟩
  refine ⟨R.len, kf, fun b z => ?_, fun i d h => ?_, fun i b xs h => ?_, R.sep, fun x e z => (R.held x e z).move mv, fun b u h => s b u (R.keep b u h), fun i c fs h => ?_, R.raw, J.kn.add R.kn hp pl⟩
  · rcases z with z | z
    · cases q : H b with
      | none => exact absurd q (R.dom b z)
      | some u => rw [s b u q]; exact fun e => by cases e
    · subst z; rw [upd_same]; exact fun e => by cases e
  · obtain ⟨v, h1, h2⟩ := R.dat i d h
    exact ⟨v, h1, h2.move mv⟩
  · obtain ⟨c, vs, h1, h2, h3, h4, h5, h6⟩ := R.own i b xs h
    refine ⟨c, vs, h1, s _ _ h2, h3.move mv, fun z => z.elim h4 fun e => ?_, h5, h6⟩
    subst e
    rw [hp] at h2
    cases h2
  · obtain ⟨a, cls, d, h1, h2, h3⟩ := R.exn i c fs h
    exact ⟨a, cls, d, h1, h2, h3.move mv⟩
theorem set_get {α : Type} {l : List α} {i j : Nat} {x y : α} (h : (l.set i x)[j]? = some y) : (j = i ∧ y = x) ∨ (j ≠ i ∧ l[j]? = some y) := by
  by_cases e : i = j
  · subst e
    by_cases hl : i < l.length
    · rw [List.getElem?_set_self hl] at h
      exact .inl ⟨rfl, (Option.some.inj h).symm⟩
    · rw [List.getElem?_eq_none (by simpa using hl)] at h
      cases h
  · rw [List.getElem?_set_ne e] at h
    exact .inr ⟨fun z => e z.symm, h⟩
theorem ownAt_set {i j : Nat} {s : Option Sl} {x : Option V} (hs : ∀ b o, s ≠ some (Sl.ob b o)) (h : OwnAt (ρ.set i s) (σ.set i x) j a) : j ≠ i ∧ OwnAt ρ σ j a := by
  obtain ⟨b, o, h1, h2⟩ := h
  rcases set_get h1 with ⟨_, e⟩ | ⟨ne, e⟩
  · exact absurd e.symm (hs b o)
  · rw [List.getElem?_set_ne (fun z => ne z.symm)] at h2
    exact ⟨ne, b, o, e, h2⟩
/-- a slot takes a thing that is no object of its own -/
theorem Rel.put (R : Rel K J G ρ σ H) {i : Nat} {s : Option Sl} {x : Option V} (hs : ∀ b o, s ≠ some (Sl.ob b o))
    (hd : ∀ d, s = some (Sl.dat d) → i < ρ.length → ∃ v, x = some v ∧ Rp K (MM G ρ σ) H v d)
    (he : ∀ c fs, s = some (Sl.exn c fs) → i < ρ.length → ∃ a cls d, J.hk = some (a, cls, d) ∧ x = some (V.ref a) ∧ XRep K (MM G ρ σ) H cls d c fs)
    (hr : s = some Sl.raw → i < ρ.length → ∃ v, J.th = some (i, v) ∧ x = some v) : Rel K J G (ρ.set i s) (σ.set i x) H := by
  have w : ∀ b, MM G (ρ.set i s) (σ.set i x) b → MM G ρ σ b := fun b z => z.imp id fun ⟨j, q⟩ => ⟨j, (ownAt_set hs q).2⟩
  have il : ∀ {j : Nat} {y : Option Sl}, (ρ.set i s)[j]? = some y → j = i → i < ρ.length := fun {j y} h e => by
    subst e
    have := (List.getElem?_eq_some_iff.mp h).1
    rwa [List.length_set] at this
  have at_ : i < ρ.length → (σ.set i x)[i]? = some x := fun h => List.getElem?_set_self (by rw [← R.len]; exact h)
  refine ⟨by rw [List.length_set, List.length_set]; exact R.len, R.kf, R.dom, fun j e hj => ?_, fun j b xs hj => ?_, fun j k c h1 h2 => R.sep j k c (ownAt_set hs h1).2 (ownAt_set hs h2).2, fun x e z => (R.held x e z).weak w, R.keep, fun j c fs hj => ?_, fun j hj => ?_, R.kn⟩
  · have il' := il hj
    rcases set_get hj with ⟨rfl, e'⟩ | ⟨ne, e'⟩
    · obtain ⟨v, h1, h2⟩ := hd e e'.symm (il' rfl)
      exact ⟨v, by rw [at_ (il' rfl), h1], h2.weak w⟩
    · obtain ⟨u, h1, h2⟩ := R.dat j e e'
      exact ⟨u, by rw [List.getElem?_set_ne fun z => ne z.symm]; exact h1, h2.weak w⟩
  · rcases set_get hj with ⟨_, e'⟩ | ⟨ne, e'⟩
    · exact absurd e'.symm (hs b xs)
    · obtain ⟨c, vs, h1, h2, h3, h4⟩ := R.own j b xs e'
      exact ⟨c, vs, by rw [List.getElem?_set_ne fun z => ne z.symm]; exact h1, h2, h3.weak w, h4⟩
  · have il' := il hj
    rcases set_get hj with ⟨rfl, e'⟩ | ⟨ne, e'⟩
    · obtain ⟨a, cls, d, h1, h2, h3⟩ := he c fs e'.symm (il' rfl)
      exact ⟨a, cls, d, h1, by rw [at_ (il' rfl), h2], h3.weak w⟩
    · obtain ⟨a, cls, d, h1, h2, h3⟩ := R.exn j c fs e'
      exact ⟨a, cls, d, h1, by rw [List.getElem?_set_ne fun z => ne z.symm]; exact h2, h3.weak w⟩
  · have il' := il hj
    rcases set_get hj with ⟨rfl, e'⟩ | ⟨ne, e'⟩
    · obtain ⟨v, h1, h2⟩ := hr e'.symm (il' rfl)
      exact ⟨v, h1, by rw [at_ (il' rfl), h2]⟩
    · obtain ⟨v, h1, h2⟩ := R.raw j e'
      exact ⟨v, h1, by rw [List.getElem?_set_ne fun z => ne z.symm]; exact h2⟩
/-- a slot takes data -/
theorem Rel.set (R : Rel K J G ρ σ H) {i : Nat} (hi : i < ρ.length) (h : Rp K (MM G ρ σ) H v d) : Rel K J G (ρ.set i (some (Sl.dat d))) (σ.set i (some v)) H :=
  R.put (fun _ _ z => nomatch z) (fun e z _ => by cases z; exact ⟨v, rfl, h⟩) (fun _ _ z => nomatch z) (fun z => nomatch z)
/-- a slot is emptied -/
theorem Rel.clear (R : Rel K J G ρ σ H) {i : Nat} {x : Option V} : Rel K J G (ρ.set i none) (σ.set i x) H :=
  R.put (fun _ _ z => nomatch z) (fun _ z => nomatch z) (fun _ _ z => nomatch z) (fun z => nomatch z)
/-- a slot takes an object of the def's own -/
theorem Rel.setOb (R : Rel K J (G.add a) ρ σ H) {i : Nat} {u : HO} {o : OB} (hi : i < ρ.length) (ha : H a = some u) (hx : RpO K (MM (G.add a) ρ σ) H u o) (hM : ¬ MM G ρ σ a) (hf : ∀ o, ¬ G.fx a o) :
    Rel K J G (ρ.set i (some (Sl.ob false o))) (σ.set i (some (.ref a))) H := by
  have spl : ∀ {j : Nat} {c : Addr}, OwnAt (ρ.set i (some (Sl.ob false o))) (σ.set i (some (.ref a))) j c → (j = i ∧ c = a) ∨ (j ≠ i ∧ OwnAt ρ σ j c) := fun {j c} q => by
    obtain ⟨b, ys, h1, h2⟩ := q
    rcases set_get h1 with ⟨rfl, _⟩ | ⟨ne, e⟩
    · rw [List.getElem?_set_self (by rw [← R.len]; exact hi)] at h2
      cases h2
      exact .inl ⟨rfl, rfl⟩
    · rw [List.getElem?_set_ne (fun z => ne z.symm)] at h2
      exact .inr ⟨ne, b, ys, e, h2⟩
  have w : ∀ b, MM G (ρ.set i (some (Sl.ob false o))) (σ.set i (some (.ref a))) b → MM (G.add a) ρ σ b := fun b z => by
    rcases z with z | ⟨j, q⟩
    · exact .inl (.inl z)
    · rcases spl q with ⟨_, rfl⟩ | ⟨_, q⟩
      · exact .inl (.inr rfl)
      · exact .inr ⟨j, q⟩
  refine ⟨by rw [List.length_set, List.length_set]; exact R.len, R.kf, fun b z => R.dom b (.inl z), fun j e hj => ?_, fun j b ys hj => ?_, fun j k c h1 h2 => ?_, fun x e z => (R.held x e z).weak w, R.keep, fun j c fs hj => ?_, fun j hj => ?_, J.kn.fx R.kn (fun b z => .inl z) fun _ _ z => .inl z⟩
  · rcases set_get hj with ⟨_, e'⟩ | ⟨ne, e'⟩
    · cases e'
    · obtain ⟨u, h1, h2⟩ := R.dat j e e'
      exact ⟨u, by rw [List.getElem?_set_ne fun z => ne z.symm]; exact h1, h2.weak w⟩
  · rcases set_get hj with ⟨rfl, e'⟩ | ⟨ne, e'⟩
    · cases e'
      exact ⟨a, u, by rw [List.getElem?_set_self (by rw [← R.len]; exact hi)], ha, hx.weak w, fun z => hM (.inl z), fun z => Bool.noConfusion z, hf⟩
    · obtain ⟨c, us, h1, h2, h3, h4, h5⟩ := R.own j b ys e'
      exact ⟨c, us, by rw [List.getElem?_set_ne fun z => ne z.symm]; exact h1, h2, h3.weak w, fun z => h4 (.inl z), h5⟩
  · rcases spl h1 with ⟨rfl, e1⟩ | ⟨n1, q1⟩
    · rcases spl h2 with ⟨rfl, _⟩ | ⟨_, q2⟩
      · rfl
      · subst e1
        exact absurd (.inr ⟨k, q2⟩) hM
    · rcases spl h2 with ⟨rfl, e2⟩ | ⟨_, q2⟩
      · subst e2
        exact absurd (.inr ⟨j, q1⟩) hM
      · exact R.sep j k c q1 q2
  · rcases set_get hj with ⟨_, e'⟩ | ⟨ne, e'⟩
    · cases e'
    · obtain ⟨b, cls, d, h1, h2, h3⟩ := R.exn j c fs e'
      exact ⟨b, cls, d, h1, by rw [List.getElem?_set_ne fun z => ne z.symm]; exact h2, h3.weak w⟩
  · rcases set_get hj with ⟨_, e'⟩ | ⟨ne, e'⟩
    · cases e'
    · obtain ⟨v, h1, h2⟩ := R.raw j e'
      exact ⟨v, h1, by rw [List.getElem?_set_ne fun z => ne z.symm]; exact h2⟩
/-- an object of the def's own is changed in place -/
theorem Rel.write (R : Rel K J G ρ σ H) {i : Nat} {b : Bool} {o o' : OB} {u' : HO} (hi : ρ[i]? = some (some (Sl.ob b o))) (hs : σ[i]? = some (some (V.ref a))) (kf : KF K (upd H a u'))
    (hx : RpO K (MM G ρ σ) H u' o') : Rel K J G (ρ.set i (some (Sl.ob b o'))) σ (upd H a u') := by
  have oa : OwnAt ρ σ i a := ⟨b, o, hi, hs⟩
  have il : i < ρ.length := (List.getElem?_eq_some_iff.mp hi).1
  have iff : ∀ j c, OwnAt (ρ.set i (some (Sl.ob b o'))) σ j c ↔ OwnAt ρ σ j c := fun j c => by
    constructor
    · rintro ⟨b2, ys, h1, h2⟩
      rcases set_get h1 with ⟨rfl, _⟩ | ⟨ne, e⟩
      · exact ⟨b, o, hi, h2⟩
      · exact ⟨b2, ys, e, h2⟩
    · rintro ⟨b2, ys, h1, h2⟩
      by_cases e : i = j
      · subst e
        exact ⟨b, o', by rw [List.getElem?_set_self il], h2⟩
      · exact ⟨b2, ys, by rw [List.getElem?_set_ne e]; exact h1, h2⟩
  have w : ∀ c, MM G (ρ.set i (some (Sl.ob b o'))) σ c → MM G ρ σ c := fun c z => z.imp id fun ⟨j, q⟩ => ⟨j, (iff j c).mp q⟩
  have kp : Keeps (MM G ρ σ) H (upd H a u') := fun c o n e => by
    rw [upd_ne (fun z => n (.inr ⟨i, by rw [z]; exact oa⟩))]
    exact e
  obtain ⟨a', us, ha1, ha2, ha3, ha4, ha5, ha6⟩ := R.own i b o hi
  rw [hs] at ha1
  cases ha1
  refine ⟨by rw [List.length_set]; exact R.len, kf, fun c z e => ?_, fun j e hj => ?_, fun j b2 ys hj => ?_, fun j k c h1 h2 => R.sep j k c ((iff _ _).mp h1) ((iff _ _).mp h2), fun x e z => (R.held x e z).mono w kp, fun c o z => ?_, fun j c fs hj => ?_, fun j hj => ?_, ?_⟩
  · by_cases q : c = a
    · subst q; rw [upd_same] at e; cases e
    · rw [upd_ne q] at e; exact R.dom c z e
  · rcases set_get hj with ⟨_, e'⟩ | ⟨ne, e'⟩
    · cases e'
    · obtain ⟨u, h1, h2⟩ := R.dat j e e'
      exact ⟨u, h1, h2.mono w kp⟩
  · rcases set_get hj with ⟨rfl, e'⟩ | ⟨ne, e'⟩
    · cases e'
      exact ⟨a, u', hs, upd_same, hx.mono w kp, ha4, ha5, ha6⟩
    · obtain ⟨c, us', h1, h2, h3, h4⟩ := R.own j b2 ys e'
      refine ⟨c, us', h1, ?_, h3.mono w kp, h4⟩
      rw [upd_ne]
      · exact h2
      · intro z
        subst z
        exact ne (R.sep j i c ⟨b2, ys, e', h1⟩ oa)
  · rw [upd_ne]
    · exact R.keep c o z
    · intro q
      subst q
      exact ha6 o z
  · rcases set_get hj with ⟨_, e'⟩ | ⟨ne, e'⟩
    · cases e'
    · obtain ⟨b, cls, d, h1, h2, h3⟩ := R.exn j c fs e'
      exact ⟨b, cls, d, h1, h2, h3.mono w kp⟩
  · rcases set_get hj with ⟨_, e'⟩ | ⟨ne, e'⟩
    · cases e'
    · exact R.raw j e'
  · exact J.kn.wr R.kn ha2 ha3.plain hx.plain
/-- an object of the def's own becomes data -/
theorem Rel.freeze (R : Rel K J G ρ σ H) {i : Nat} {b : Bool} {o : OB} (hi : ρ[i]? = some (some (Sl.ob b o)))
    (hd : ∀ a u, H a = some u → ¬ MM G (ρ.set i (some (Sl.dat d))) σ a → RpO K (MM G (ρ.set i (some (Sl.dat d))) σ) H u o → Rp K (MM G (ρ.set i (some (Sl.dat d))) σ) H (.ref a) d) : Rel K J G (ρ.set i (some (Sl.dat d))) σ H := by
  have il : i < ρ.length := (List.getElem?_eq_some_iff.mp hi).1
  obtain ⟨a, us, ha1, ha2, ha3, ha4, ha5, ha6⟩ := R.own i b o hi
  have ow : ∀ j c, OwnAt (ρ.set i (some (Sl.dat d))) σ j c → j ≠ i ∧ OwnAt ρ σ j c := fun j c q => by
    obtain ⟨b2, ys, h1, h2⟩ := q
    rcases set_get h1 with ⟨_, e⟩ | ⟨ne, e⟩
    · cases e
    · exact ⟨ne, b2, ys, e, h2⟩
  have w : ∀ c, MM G (ρ.set i (some (Sl.dat d))) σ c → MM G ρ σ c := fun c z => z.imp id fun ⟨j, q⟩ => ⟨j, (ow j c q).2⟩
  refine ⟨by rw [List.length_set]; exact R.len, R.kf, R.dom, fun j e hj => ?_, fun j b2 ys hj => ?_, fun j k c h1 h2 => R.sep j k c (ow _ _ h1).2 (ow _ _ h2).2, fun x e z => (R.held x e z).weak w, R.keep, fun j c fs hj => ?_, fun j hj => ?_, R.kn⟩
  · rcases set_get hj with ⟨rfl, e'⟩ | ⟨ne, e'⟩
    · cases e'
      refine ⟨.ref a, ha1, hd a us ha2 ?_ (ha3.weak w)⟩
      rintro (z | ⟨j2, q⟩)
      · exact ha4 z
      · exact (ow j2 a q).1 (R.sep j2 j a (ow j2 a q).2 ⟨b, o, hi, ha1⟩)
    · obtain ⟨u, h1, h2⟩ := R.dat j e e'
      exact ⟨u, h1, h2.weak w⟩
  · rcases set_get hj with ⟨_, e'⟩ | ⟨ne, e'⟩
    · cases e'
    · obtain ⟨c, us', h1, h2, h3, h4⟩ := R.own j b2 ys e'
      exact ⟨c, us', h1, h2, h3.weak w, h4⟩
  · rcases set_get hj with ⟨_, e'⟩ | ⟨ne, e'⟩
    · cases e'
    · obtain ⟨b, cls, d, h1, h2, h3⟩ := R.exn j c fs e'
      exact ⟨b, cls, d, h1, h2, h3.weak w⟩
  · rcases set_get hj with ⟨_, e'⟩ | ⟨ne, e'⟩
    · cases e'
    · exact R.raw j e'
/-- the data that an object is -/
def OB.dat : OB → Option D
  | .lst xs => some (.list xs)
  | .dic kvs => some (.dict kvs)
  | .set _ => none
theorem RpO.dat {M : Addr → Prop} {u : HO} {o : OB} {d : D} (h : RpO K M H u o) (e : o.dat = some d) (ha : H a = some u) (n : ¬ M a) : Rp K M H (.ref a) d := by
  cases h with
  | lst r => cases e; exact .lst n (SqL.of ha) r
  | dicK r => cases e; exact .dicK n ha r
  | set _ _ _ => cases e
end

/-! ## results, read by what is wanted of them -/
def bnd {α β : Type} (x : Res α) (k : α → Res β) : Res β := match x with | .ok a => k a | .error e => .error e
@[simp] theorem bnd_ok {α β : Type} (a : α) (k : α → Res β) : bnd (.ok a) k = k a := rfl
@[simp] theorem bnd_err {α β : Type} (e : Err) (k : α → Res β) : bnd (.error e) k = .error e := rfl
theorem bnd_inv {α β : Type} {x : Res α} {k : α → Res β} {b : β} (h : bnd x k = .ok b) : ∃ a, x = .ok a ∧ k a = .ok b := by
  cases x with
  | ok a => exact ⟨a, rfl, h⟩
  | error e => cases h
/-- an operation on data lets nothing out -/
def pur {α : Type} (x : Res α) : Res α := match x with | .ok a => .ok a | .error _ => stuck
@[simp] theorem pur_ok {α : Type} (a : α) : pur (.ok a) = .ok a := rfl
@[simp] theorem pur_err {α : Type} (e : Err) : pur (.error e : Res α) = stuck := rfl
abbrev Wx := Str → List (Str × D) → DEnv → Prop
def Out {α : Type} (w : Wx) (x : Res α) (k : α → Prop) : Prop := match x with
  | .ok a => k a
  | .error (.exc c fs ρ) => w c fs ρ
  | .error .stuck => False
section
variable {α β : Type} {w w' : Wx} {x : Res α} {f : α → Res β} {k : α → Prop} {kb : β → Prop}
theorem Out.imp {k' : α → Prop} (h : Out w x k) (hw : ∀ c fs ρ, w c fs ρ → w' c fs ρ) (hk : ∀ a, k a → k' a) : Out w' x k' := by
  cases x with
  | ok a => exact hk a h
  | error e =>
    cases e with
    | stuck => exact h
    | exc c fs ρ => exact hw c fs ρ h
theorem Out.mp {k' : α → Prop} (h : Out w x k) (hk : ∀ a, x = .ok a → k a → k' a) : Out w x k' := by
  cases x with
  | ok a => exact hk a rfl h
  | error e =>
    cases e with
    | stuck => exact h
    | exc c fs ρ => exact h
/-- the first of two steps -/
theorem Out.bnd {k' : α → Prop} (h : Out w (bnd x f) kb) (hk : ∀ a, Out w (f a) kb → k' a) : Out w x k' := by
  cases x with
  | ok a => exact hk a h
  | error e =>
    cases e with
    | stuck => exact h
    | exc c fs ρ => exact h
theorem Out.bndI {k' : α → Prop} (h : Out w (DL.bnd x f) kb) (hk : ∀ a, x = .ok a → Out w (f a) kb → k' a) : Out w x k' := by
  cases x with
  | ok a => exact hk a rfl h
  | error e =>
    cases e with
    | stuck => exact h
    | exc c fs ρ => exact h
/-- a step that lets nothing out -/
theorem Out.pur (h : Out w (DL.bnd (pur x) f) kb) : ∃ a, x = .ok a ∧ Out w (f a) kb := by
  cases x with
  | ok a => exact ⟨a, rfl, h⟩
  | error e => exact h.elim
theorem Out.ok {a : α} (h : Out w (.ok a) k) : k a := h
theorem Out.no (h : Out w (stuck : Res α) k) : False := h
end

/-! ## judgements -/
abbrev EvF := DEnv → Res (D × DEnv)
abbrev EvA := DEnv → Res (List D × DEnv)
abbrev EvV := DEnv → Res ((Bool × List D) × DEnv)
abbrev EvN := DEnv → Res (OB × DEnv)
inductive Ctl where
  | nx | bk | ct
  | rt (d : D)
abbrev EvS := DEnv → Res (Ctl × DEnv)

/-- what is wished of an exception, at these slots -/
def wE (K : PySem.W.Frag) (J : Jx) (G : Gh) (σ : St) : Wx := fun c fs ρ => ∀ cls d H', Rel K J G ρ σ H' → XRep K (MM G ρ σ) H' cls d c fs → J.W cls d σ H'
/-- .. at any slots -/
def wS (K : PySem.W.Frag) (J : Jx) (G : Gh) : Wx := fun c fs ρ => ∀ σ' cls d H', Rel K J G ρ σ' H' → XRep K (MM G ρ σ') H' cls d c fs → J.W cls d σ' H'
section
variable {K : PySem.W.Frag} {J : Jx} {G : Gh} {σ : St} {v : V} {d : D} {a : Addr} {α : Type} {x : Res α} {k : α → Prop}
theorem wE_hold {c : Str} {fs : List (Str × D)} {ρ : DEnv} (h : wE K J G σ c fs ρ) : wE K J (G.hold v d) σ c fs ρ := fun cls d H' R z => h cls d H' R.unhold.1 z
theorem wE_add {c : Str} {fs : List (Str × D)} {ρ : DEnv} (h : wE K J G σ c fs ρ) : wE K J (G.add a) σ c fs ρ := fun cls d H' R z => h cls d H' R.unadd (z.weak fun b q => mm_add.mpr (.inl q))
theorem wE_of {c : Str} {fs : List (Str × D)} {ρ : DEnv} (h : wS K J G c fs ρ) : wE K J G σ c fs ρ := fun cls d H' R z => h σ cls d H' R z
theorem wS_hold {c : Str} {fs : List (Str × D)} {ρ : DEnv} (h : wS K J G c fs ρ) : wS K J (G.hold v d) c fs ρ := fun σ' cls d H' R z => h σ' cls d H' R.unhold.1 z
theorem wS_add {c : Str} {fs : List (Str × D)} {ρ : DEnv} (h : wS K J G c fs ρ) : wS K J (G.add a) c fs ρ := fun σ' cls d H' R z => h σ' cls d H' R.unadd (z.weak fun b q => mm_add.mpr (.inl q))
theorem Out.hold (h : Out (wE K J G σ) x k) : Out (wE K J (G.hold v d) σ) x k := h.imp (fun _ _ _ z => wE_hold z) fun _ z => z
theorem Out.add (h : Out (wE K J G σ) x k) : Out (wE K J (G.add a) σ) x k := h.imp (fun _ _ _ z => wE_add z) fun _ z => z
theorem Out.holdS (h : Out (wS K J G) x k) : Out (wS K J (G.hold v d)) x k := h.imp (fun _ _ _ z => wS_hold z) fun _ z => z
theorem Out.addS (h : Out (wS K J G) x k) : Out (wS K J (G.add a)) x k := h.imp (fun _ _ _ z => wS_add z) fun _ z => z
theorem Out.e (h : Out (wS K J G) x k) : Out (wE K J G σ) x k := h.imp (fun _ _ _ z => wE_of z) fun _ z => z
end

/-- e gives data -/
def tE (K : PySem.W.Frag) (J : Jx) (f : EvF) : TE := fun σ H Q => ∃ G ρ, Rel K J G ρ σ H ∧ Out (wE K J G σ) (f ρ) fun p => ∀ v H', Rel K J G p.2 σ H' → Rp K (MM G p.2 σ) H' v p.1 → Q v H'
def IsSq (K : PySem.W.Frag) (H : Hp) (t : Bool) (a : Addr) (vs : List V) : Prop := if t = true then SqT K H a vs else SqL K H a vs
/-- e gives a list (or, true, a tuple) that is read at once; it may be one of the def's own -/
def tW (K : PySem.W.Frag) (J : Jx) (f : EvV) : TE := fun σ H Q => ∃ G ρ, Rel K J G ρ σ H ∧ Out (wE K J G σ) (f ρ) fun p =>
  ∀ a vs H', Rel K J G p.2 σ H' → IsSq K H' p.1.1 a vs → RpA K (MM G p.2 σ) H' vs p.1.2 → (p.1.1 = true → ¬ MM G p.2 σ a) → Q (.ref a) H'
/-- e gives a new list, held by nothing else -/
def tL (K : PySem.W.Frag) (J : Jx) (f : EvA) : TE := fun σ H Q => ∃ G ρ, Rel K J G ρ σ H ∧ Out (wE K J G σ) (f ρ) fun p =>
  ∀ a vs H', Rel K J (G.add a) p.2 σ H' → H' a = some (.lst vs) → RpA K (MM (G.add a) p.2 σ) H' vs p.1 → ¬ MM G p.2 σ a → (∀ o, ¬ G.fx a o) → Q (.ref a) H'
/-- e gives a new object, held by nothing else -/
def tN (K : PySem.W.Frag) (J : Jx) (f : EvN) : TE := fun σ H Q => ∃ G ρ, Rel K J G ρ σ H ∧ Out (wE K J G σ) (f ρ) fun p =>
  ∀ a u H', Rel K J (G.add a) p.2 σ H' → H' a = some u → RpO K (MM (G.add a) p.2 σ) H' u p.1 → ¬ MM G p.2 σ a → (∀ o, ¬ G.fx a o) → Q (.ref a) H'
def tA (K : PySem.W.Frag) (J : Jx) (f : EvA) : TA := fun σ H Q => ∃ G ρ, Rel K J G ρ σ H ∧ Out (wE K J G σ) (f ρ) fun p => ∀ vs H', Rel K J G p.2 σ H' → RpA K (MM G p.2 σ) H' vs p.1 → Q vs H'
/-- a test -/
def tTs (K : PySem.W.Frag) (J : Jx) (f : EvF) : TT := fun σ H Q => ∃ G ρ, Rel K J G ρ σ H ∧ Out (wE K J G σ) (f ρ) fun p => ∃ b, p.1 = .bool b ∧ ∀ H', Rel K J G p.2 σ H' → Q b H'
/-- what a returned value keeps away from: the outer addresses and what was lent -/
def MB (G : Gh) (ρ : DEnv) (σ : St) (a : Addr) : Prop := G.M a ∨ ∃ (i : Nat) (o : OB), ρ[i]? = some (some (Sl.ob true o)) ∧ σ[i]? = some (some (V.ref a))
def wantS (K : PySem.W.Frag) (J : Jx) (E : Ends) (G : Gh) : Ctl → DEnv → Prop
  | .nx, ρ' => ∀ σ' H', Rel K J G ρ' σ' H' → E.nx σ' H'
  | .bk, ρ' => ∀ σ' H', Rel K J G ρ' σ' H' → E.bk σ' H'
  | .ct, ρ' => ∀ σ' H', Rel K J G ρ' σ' H' → E.ct σ' H'
  | .rt d, ρ' => ∀ σ' v H', Rel K J G ρ' σ' H' → Rp K (MB G ρ' σ') H' v d → E.rt v H'
def tS (K : PySem.W.Frag) (J : Jx) (f : EvS) : TS := fun E σ H => ∃ G ρ, Rel K J G ρ σ H ∧ Out (wS K J G) (f ρ) fun p => wantS K J E G p.1 p.2

section
variable {X : Cx} {e : Expr} {t t' : TE}
/-- a reading is weakened; behind it the written part is known to be untracked -/
theorem PE.by (h : PE X e t) (hh : ∀ σ H Q, t' σ H Q → t σ H fun v H' => KF X.K H' → Q v H') : PE X e t' :=
  ⟨fun pins s σ H Q I hq => thn (h.run pins s σ H _ I (hh σ H Q hq)) fun u s' ⟨v, H', I', r, q⟩ => ⟨v, H', I', r, q (kf_of I')⟩⟩
theorem PT.by {t t' : TT} (h : PT X e t) (hh : ∀ σ H Q, t' σ H Q → t σ H fun v H' => KF X.K H' → Q v H') : PT X e t' :=
  ⟨fun pins s σ H Q I hq => thn (h.run pins s σ H _ I (hh σ H Q hq)) fun u s' ⟨H', I', q⟩ => ⟨H', I', q (kf_of I')⟩⟩
theorem PA.by {es : List Expr} {t t' : TA} (h : PA X es t) (hh : ∀ σ H Q, t' σ H Q → t σ H fun v H' => KF X.K H' → Q v H') : PA X es t' :=
  ⟨fun pos pins s σ H Q I hq => thn (h.run pos pins s σ H _ I (hh σ H Q hq)) fun u s' ⟨v, H', I', r, q⟩ => ⟨v, H', I', r, q (kf_of I')⟩⟩
def kfE (K : PySem.W.Frag) (E : Ends) : Ends := ⟨fun σ H => KF K H → E.nx σ H, fun v H => KF K H → E.rt v H, fun σ H => KF K H → E.bk σ H, fun σ H => KF K H → E.ct σ H⟩
theorem SP.kf {pins : List (Addr × Obj)} {E : Ends} {f : Flow} {s' : Shared} (h : SP X pins (kfE X.K E) f s') : SP X pins E f s' := by
  cases f with
  | next => obtain ⟨σ', H', I, q⟩ := h; exact ⟨σ', H', I, q (kf_of I)⟩
  | brk => obtain ⟨σ', H', I, q⟩ := h; exact ⟨σ', H', I, q (kf_of I)⟩
  | cont => obtain ⟨σ', H', I, q⟩ := h; exact ⟨σ', H', I, q (kf_of I)⟩
  | ret u => obtain ⟨v, σ', H', I, r, q⟩ := h; exact ⟨v, σ', H', I, r, q (kf_of I)⟩
theorem PS.by {st : Stmt} {t t' : TS} (h : PS X st t) (hh : ∀ E σ H, t' E σ H → t (kfE X.K E) σ H) : PS X st t' :=
  ⟨fun pins s σ H E I hq => thn (h.run pins s σ H _ I (hh E σ H hq)) fun u s' q => SP.kf q⟩
theorem PSs.by {st : List Stmt} {t t' : TS} (h : PSs X st t) (hh : ∀ E σ H, t' E σ H → t (kfE X.K E) σ H) : PSs X st t' :=
  ⟨fun pins s σ H E I hq => thn (h.run pins s σ H _ I (hh E σ H hq)) fun u s' q => SP.kf q⟩
end
end L2.DL

namespace L2.DL
open PySem PySem.Spec PyProof.Rows

theorem Rel.domM {K : PySem.W.Frag} {J : Jx} {G : Gh} {ρ : DEnv} {σ : St} {H : Hp} (R : Rel K J G ρ σ H) : ∀ a, MM G ρ σ a → H a ≠ none := fun a z e => R.nown e z
theorem PE.pre {X : Cx} {e : Expr} {t : TE} (h : PE X e t) : PE X e (fun σ H Q => KF X.K H → t σ H Q) := ⟨fun pins s σ H Q I hq => h.run pins s σ H Q I (hq (kf_of I))⟩
theorem PSs.pre {X : Cx} {st : List Stmt} {t : TS} (h : PSs X st t) : PSs X st (fun E σ H => KF X.K H → t E σ H) := ⟨fun pins s σ H E I hq => h.run pins s σ H E I (hq (kf_of I))⟩
theorem PG.pre {X : Cx} {tg : Expr} {t : TG} (h : PG X tg t) : PG X tg (fun v σ H Q => KF X.K H → t v σ H Q) := ⟨fun pins s σ H v u Q I r hq => h.run pins s σ H v u Q I r (hq (kf_of I))⟩

section
variable {X : Cx} {J : Jx} {a b c e : Expr} {es : List Expr} {pos : Pos} {fa fb fc f : EvF} {fs : EvA}

/-! ## names and constants -/
def mVar (i : Nat) : EvF := fun ρ => match ρ[i]? with | some (some (Sl.dat d)) => .ok (d, ρ) | _ => stuck
def mC (d : D) : EvF := fun ρ => .ok (d, ρ)
theorem de_var (i : Nat) {x : Str} (hN : X.N[i]? = some x := by rfl) (hv : Vis X.env.scope x := by first | exact Or.inl rfl | exact Or.inr (Or.inl rfl) | exact Or.inr (Or.inr rfl)) (hd : (x == ("__debug__" : Str)) = false := by decide)
    (hcd : (x == ("__classdict__" : Str)) = false := by decide) : PE X (.Name x pos) (tE X.K J (mVar i)) := by
  refine PE.by (pv i hN hv hd hcd) ?_
  rintro σ H Q ⟨G, ρ, R, h⟩
  unfold mVar at h
  split at h
  · rename_i d e
    obtain ⟨v, h1, h2⟩ := R.dat i d e
    exact ⟨v, h1, fun _ => h v H R h2⟩
  · exact h.elim
theorem de_int {i : Int} {j : Nat} : PE X (.Constant (.int i) j pos) (tE X.K J (mC (.int i))) := by
  refine PE.by pe_int ?_
  rintro σ H Q ⟨G, ρ, R, h⟩
  exact fun _ => h _ H R (.int i)
theorem de_bl {i : Bool} {j : Nat} : PE X (.Constant (.bool i) j pos) (tE X.K J (mC (.bool i))) := by
  refine PE.by pe_bl ?_
  rintro σ H Q ⟨G, ρ, R, h⟩
  exact fun _ => h _ H R (.bl i)
theorem de_non {j : Nat} : PE X (.Constant .none j pos) (tE X.K J (mC .none)) := by
  refine PE.by pe_non ?_
  rintro σ H Q ⟨G, ρ, R, h⟩
  exact fun _ => h _ H R .non
theorem de_str {x : Str} {j : Nat} : PE X (.Constant (.str x) j pos) (tE X.K J (mC (.str x))) := by
  refine PE.by pe_str ?_
  rintro σ H Q ⟨G, ρ, R, h⟩
  exact fun _ => h _ H R (.str x)

/-! ## operators -/
/-- an operation on data -/
def rD (K : PySem.W.Frag) (g : D → D → Res D) : R2 := fun x y H Q => ∃ (M : Addr → Prop) (d e z : D), Rp K M H x d ∧ Rp K M H y e ∧ (∀ a, M a → H a ≠ none) ∧ g d e = .ok z ∧ ∀ v H', Same H H' → Rp K M H' v z → Q v H'
def mOp (g : D → D → Res D) (fa fb : EvF) : EvF := fun ρ => bnd (fa ρ) fun p => bnd (fb p.2) fun q => bnd (pur (g p.1 q.1)) fun z => .ok (z, q.2)
/-- the reading of an operation, from the readings of its places -/
theorem rd_op {K : PySem.W.Frag} {g : D → D → Res D} {σ : St} {H : Hp} {Q : VK} (h : tE K J (mOp g fa fb) σ H Q) : tOp (rD K g) (tE K J fa) (tE K J fb) σ H fun v H' => KF K H' → Q v H' := by
  obtain ⟨G, ρ, R, h⟩ := h
  refine ⟨G, ρ, R, h.bnd fun p h x H1 R1 r1 => ?_⟩
  refine ⟨G.hold x p.1, p.2, R1.hold r1, h.hold.bnd fun q h y H2 R2 r2 => ?_⟩
  obtain ⟨R2, r1'⟩ := R2.unhold
  obtain ⟨z, h3, h⟩ := h.pur
  exact ⟨MM G q.2 σ, p.1, q.1, z, r1', r2, R2.domM, h3, fun v H' s r kf => h v H' (R2.same kf s) r⟩
theorem de_op {op : Operator} {g : D → D → Res D} (ho : OpR X (binaryOp op) (rD X.K g)) (ha : PE X a (tE X.K J fa)) (hb : PE X b (tE X.K J fb)) : PE X (.BinOp a op b pos) (tE X.K J (mOp g fa fb)) :=
  PE.by (pe_op ho ha hb) fun _ _ _ h => rd_op h
/-- a comparison of data: the heap stays -/
def rB (K : PySem.W.Frag) (g : D → D → Res Bool) : R2 := fun x y H Q => ∃ (M : Addr → Prop) (d e : D) (k : Bool), Rp K M H x d ∧ Rp K M H y e ∧ g d e = .ok k ∧ Q (.bl k) H
def mCmp (g : D → D → Res Bool) (fa fb : EvF) : EvF := fun ρ => bnd (fa ρ) fun p => bnd (fb p.2) fun q => bnd (pur (g p.1 q.1)) fun k => .ok (.bool k, q.2)
theorem de_cmp {op : CmpOp} {g : D → D → Res Bool} (ho : OpR X (compareOp op) (rB X.K g)) (ha : PE X a (tE X.K J fa)) (hb : PE X b (tE X.K J fb)) (hm : behindInMarks op b = false := by first | exact nomark _ | rfl) :
    PE X (.Compare a [op] [b] pos) (tE X.K J (mCmp g fa fb)) := by
  refine PE.by (pe_cmpR ho ha hb hm) ?_
  rintro σ H Q ⟨G, ρ, R, h⟩
  refine ⟨G, ρ, R, h.bnd fun p h x H1 R1 r1 => ?_⟩
  refine ⟨G.hold x p.1, p.2, R1.hold r1, h.hold.bnd fun q h y H2 R2 r2 => ?_⟩
  obtain ⟨R2, r1'⟩ := R2.unhold
  obtain ⟨k, h3, h⟩ := h.pur
  exact ⟨MM G q.2 σ, p.1, q.1, k, r1', r2, h3, fun _ => h _ _ R2 (.bl k)⟩
theorem dt_cmp {op : CmpOp} {g : D → D → Res Bool} (ho : OpR X (compareOp op) (rB X.K g)) (ha : PE X a (tE X.K J fa)) (hb : PE X b (tE X.K J fb)) (hm : behindInMarks op b = false := by first | exact nomark _ | rfl) :
    PT X (.Compare a [op] [b] pos) (tTs X.K J (mCmp g fa fb)) := by
  refine PT.by (pt_cmpR ho ha hb hm) ?_
  rintro σ H Q ⟨G, ρ, R, h⟩
  refine ⟨G, ρ, R, h.bnd fun p h x H1 R1 r1 => ?_⟩
  refine ⟨G.hold x p.1, p.2, R1.hold r1, h.hold.bnd fun q h y H2 R2 r2 => ?_⟩
  obtain ⟨R2, r1'⟩ := R2.unhold
  obtain ⟨k, h3, h⟩ := h.pur
  obtain ⟨b, e, h⟩ := h.ok
  cases e
  exact ⟨MM G q.2 σ, p.1, q.1, k, r1', r2, h3, k, rfl, fun _ => h _ R2⟩
/-- a op b op' c -/
def mChain (g g' : D → D → Res Bool) (fa fb fc : EvF) : EvF := fun ρ => bnd (fa ρ) fun p => bnd (fb p.2) fun q => bnd (pur (g p.1 q.1)) fun k =>
  if k = true then bnd (fc q.2) fun r => bnd (pur (g' q.1 r.1)) fun k' => .ok (.bool k', r.2) else .ok (.bool false, q.2)
theorem rd_chain {K : PySem.W.Frag} {g g' : D → D → Res Bool} {σ : St} {H : Hp} {G : Gh} {ρ : DEnv} {kk : D × DEnv → Prop} {Q : VK} (R : Rel K J G ρ σ H) (h : Out (wE K J G σ) (mChain g g' fa fb fc ρ) kk)
    (hq : ∀ k ρ' H', kk (.bool k, ρ') → Rel K J G ρ' σ H' → Q (.bl k) H') : tChain (rB K g) (rB K g') (tE K J fa) (tE K J fb) (tE K J fc) σ H Q := by
  refine ⟨G, ρ, R, h.bnd fun p h x H1 R1 r1 => ?_⟩
  refine ⟨G.hold x p.1, p.2, R1.hold r1, h.hold.bnd fun q h y H2 R2 r2 => ?_⟩
  have r1' := R2.unhold.2
  obtain ⟨k, h3, h⟩ := h.pur
  refine ⟨MM G q.2 σ, p.1, q.1, k, r1', r2, h3, k, rfl, ?_⟩
  cases k with
  | true =>
    rw [if_pos rfl]
    rw [if_pos rfl] at h
    refine ⟨(G.hold x p.1).hold y q.1, q.2, R2.hold r2, h.hold.bnd fun r h w H4 R4 r4 => ?_⟩
    obtain ⟨R4, ry⟩ := R4.unhold
    obtain ⟨k', h5, h⟩ := h.pur
    exact ⟨MM G r.2 σ, q.1, r.1, k', ry, r4, h5, hq _ _ _ h.ok R4.unhold.1⟩
  | false =>
    rw [if_neg Bool.false_ne_true]
    rw [if_neg Bool.false_ne_true] at h
    exact hq _ _ _ h.ok R2.unhold.1
theorem de_chain {op op' : CmpOp} {g g' : D → D → Res Bool} (ho : OpR X (compareOp op) (rB X.K g)) (ho' : OpR X (compareOp op') (rB X.K g')) (ha : PE X a (tE X.K J fa)) (hb : PE X b (tE X.K J fb)) (hc : PE X c (tE X.K J fc))
    (hm : lastMarks [op, op'] [b, c] = false := by with_unfolding_all rfl) : PE X (.Compare a [op, op'] [b, c] pos) (tE X.K J (mChain g g' fa fb fc)) := by
  refine PE.by (pe_chain ho ho' ha hb hc hm) ?_
  rintro σ H Q ⟨G, ρ, R, h⟩
  exact rd_chain R h fun k ρ' H' z R' _ => z _ _ R' (.bl k)
theorem dt_chain {op op' : CmpOp} {g g' : D → D → Res Bool} (ho : OpR X (compareOp op) (rB X.K g)) (ho' : OpR X (compareOp op') (rB X.K g')) (ha : PE X a (tE X.K J fa)) (hb : PE X b (tE X.K J fb)) (hc : PE X c (tE X.K J fc))
    (hm : lastMarks [op, op'] [b, c] = false := by with_unfolding_all rfl) : PT X (.Compare a [op, op'] [b, c] pos) (tTs X.K J (mChain g g' fa fb fc)) := by
  refine PT.by (pt_chain ho ho' ha hb hc hm) ?_
  rintro σ H Q ⟨G, ρ, R, h⟩
  exact rd_chain (Q := fun x H' => ∃ k, x = .bl k ∧ (KF X.K H' → Q k H')) R h fun k ρ' H' z R' => by
    obtain ⟨b, e, z⟩ := z
    cases e
    exact ⟨k, rfl, fun _ => z _ R'⟩

/-! ## truth -/
theorem dt_val (h : PE X e (tE X.K J f)) (he : ∀ whole, isTrue e X.env whole = (do let v ← whole; standAt e.pos; holding [v] (truthy v)) := by intro _; rfl) : PT X e (tTs X.K J f) := by
  refine PT.by (pt_val h he) ?_
  rintro σ H Q ⟨G, ρ, R, h⟩
  exact ⟨G, ρ, R, h.mp fun p _ z v H' R' r => by
    obtain ⟨b, e, z⟩ := z
    rw [e] at r
    exact ⟨b, r.bool_inv, fun _ => z _ R'⟩⟩
def mAnd (fa fb : EvF) : EvF := fun ρ => bnd (fa ρ) fun p => match p.1 with
  | .bool true => fb p.2
  | .bool false => .ok (.bool false, p.2)
  | _ => stuck
def mOr (fa fb : EvF) : EvF := fun ρ => bnd (fa ρ) fun p => match p.1 with
  | .bool true => .ok (.bool true, p.2)
  | .bool false => fb p.2
  | _ => stuck
def mNot (fa : EvF) : EvF := fun ρ => bnd (fa ρ) fun p => match p.1 with
  | .bool b => .ok (.bool (!b), p.2)
  | _ => stuck
theorem de_one {op : BoolOp} (h : PE X a (tE X.K J f)) : PE X (.BoolOp op [a] pos) (tE X.K J f) := pe_one h
theorem de_and {rest : List Expr} (ha : PE X a (tE X.K J fa)) (hb : PE X (.BoolOp .And (b :: rest) pos) (tE X.K J fb)) : PE X (.BoolOp .And (a :: b :: rest) pos) (tE X.K J (mAnd fa fb)) := by
  refine PE.by (pe_and ha hb) ?_
  rintro σ H Q ⟨G, ρ, R, h⟩
  refine ⟨G, ρ, R, h.bnd fun p h x H1 R1 r1 => ?_⟩
  obtain ⟨d, ρ1⟩ := p
  cases d with
  | bool k =>
    refine ⟨k, r1.bool_inv, ?_⟩
    cases k with
    | true =>
      rw [if_pos rfl]
      exact ⟨G, ρ1, R1, h.mp fun q _ z v H' R' r' _ => z v H' R' r'⟩
    | false =>
      rw [if_neg Bool.false_ne_true]
      exact fun _ => h _ _ R1 (.bl false)
  | _ => exact h.elim
theorem de_or {rest : List Expr} (ha : PE X a (tE X.K J fa)) (hb : PE X (.BoolOp .Or (b :: rest) pos) (tE X.K J fb)) : PE X (.BoolOp .Or (a :: b :: rest) pos) (tE X.K J (mOr fa fb)) := by
  refine PE.by (pe_or ha hb) ?_
  rintro σ H Q ⟨G, ρ, R, h⟩
  refine ⟨G, ρ, R, h.bnd fun p h x H1 R1 r1 => ?_⟩
  obtain ⟨d, ρ1⟩ := p
  cases d with
  | bool k =>
    refine ⟨k, r1.bool_inv, ?_⟩
    cases k with
    | false =>
      rw [if_neg Bool.false_ne_true]
      exact ⟨G, ρ1, R1, h.mp fun q _ z v H' R' r' _ => z v H' R' r'⟩
    | true =>
      rw [if_pos rfl]
      exact fun _ => h _ _ R1 (.bl true)
  | _ => exact h.elim
theorem de_not (ha : PE X a (tE X.K J fa)) : PE X (.UnaryOp .Not a pos) (tE X.K J (mNot fa)) := by
  refine PE.by (pe_not ha) ?_
  rintro σ H Q ⟨G, ρ, R, h⟩
  refine ⟨G, ρ, R, h.bnd fun p h x H1 R1 r1 => ?_⟩
  obtain ⟨d, ρ1⟩ := p
  cases d with
  | bool k => exact ⟨k, r1.bool_inv, fun _ => h _ _ R1 (.bl _)⟩
  | _ => exact h.elim
/-- tests of and, or: of any 'whole' -/
theorem dw_and1 (ha : PT X a (tTs X.K J f)) : PW X (.BoolOp .And [a] pos) (tTs X.K J f) := pw_and1 ha
theorem dw_or1 (ha : PT X a (tTs X.K J f)) : PW X (.BoolOp .Or [a] pos) (tTs X.K J f) := pw_or1 ha
theorem PW.by {t t' : TT} (h : PW X e t) (hh : ∀ σ H Q, t' σ H Q → t σ H fun v H' => KF X.K H' → Q v H') : PW X e t' :=
  ⟨fun wh pins s σ H Q I hq => thn (h.run wh pins s σ H _ I (hh σ H Q hq)) fun u s' ⟨H', I', q⟩ => ⟨H', I', q (kf_of I')⟩⟩
theorem dw_and {rest : List Expr} (ha : PT X a (tTs X.K J fa)) (hb : PW X (.BoolOp .And (b :: rest) pos) (tTs X.K J fb)) : PW X (.BoolOp .And (a :: b :: rest) pos) (tTs X.K J (mAnd fa fb)) := by
  refine PW.by (pw_and ha hb) ?_
  rintro σ H Q ⟨G, ρ, R, h⟩
  refine ⟨G, ρ, R, h.bnd fun p h => ?_⟩
  obtain ⟨d, ρ1⟩ := p
  cases d with
  | bool k =>
    refine ⟨k, rfl, fun H1 R1 => ?_⟩
    cases k with
    | true =>
      rw [if_pos rfl]
      exact ⟨G, ρ1, R1, h.mp fun q _ ⟨b, e, z⟩ => ⟨b, e, fun H' R' _ => z H' R'⟩⟩
    | false =>
      rw [if_neg Bool.false_ne_true]
      obtain ⟨b, e, z⟩ := h.ok
      cases e
      exact fun _ => z _ R1
  | _ => exact h.elim
theorem dw_or {rest : List Expr} (ha : PT X a (tTs X.K J fa)) (hb : PW X (.BoolOp .Or (b :: rest) pos) (tTs X.K J fb)) : PW X (.BoolOp .Or (a :: b :: rest) pos) (tTs X.K J (mOr fa fb)) := by
  refine PW.by (pw_or ha hb) ?_
  rintro σ H Q ⟨G, ρ, R, h⟩
  refine ⟨G, ρ, R, h.bnd fun p h => ?_⟩
  obtain ⟨d, ρ1⟩ := p
  cases d with
  | bool k =>
    refine ⟨k, rfl, fun H1 R1 => ?_⟩
    cases k with
    | false =>
      rw [if_neg Bool.false_ne_true]
      exact ⟨G, ρ1, R1, h.mp fun q _ ⟨b, e, z⟩ => ⟨b, e, fun H' R' _ => z H' R'⟩⟩
    | true =>
      rw [if_pos rfl]
      obtain ⟨b, e, z⟩ := h.ok
      cases e
      exact fun _ => z _ R1
  | _ => exact h.elim
theorem dt_not (ha : PT X a (tTs X.K J fa)) : PT X (.UnaryOp .Not a pos) (tTs X.K J (mNot fa)) := by
  refine PT.by (pt_not ha) ?_
  rintro σ H Q ⟨G, ρ, R, h⟩
  refine ⟨G, ρ, R, h.bnd fun p h => ?_⟩
  obtain ⟨d, ρ1⟩ := p
  cases d with
  | bool k =>
    refine ⟨k, rfl, fun H1 R1 => ?_⟩
    obtain ⟨b, e, z⟩ := h.ok
    cases e
    exact fun _ => z _ R1
  | _ => exact h.elim
def mIf (ft fa fb : EvF) : EvF := fun ρ => bnd (ft ρ) fun p => match p.1 with
  | .bool true => fa p.2
  | .bool false => fb p.2
  | _ => stuck
theorem de_if (hc : PT X c (tTs X.K J fc)) (ha : PE X a (tE X.K J fa)) (hb : PE X b (tE X.K J fb)) : PE X (.IfExp c a b pos) (tE X.K J (mIf fc fa fb)) := by
  refine PE.by (pe_ifExp hc ha hb) ?_
  rintro σ H Q ⟨G, ρ, R, h⟩
  refine ⟨G, ρ, R, h.bnd fun p h => ?_⟩
  obtain ⟨d, ρ1⟩ := p
  cases d with
  | bool k =>
    refine ⟨k, rfl, fun H1 R1 => ?_⟩
    cases k with
    | true =>
      rw [if_pos rfl]
      exact ⟨G, ρ1, R1, h.mp fun q _ z v H' R' r' _ => z v H' R' r'⟩
    | false =>
      rw [if_neg Bool.false_ne_true]
      exact ⟨G, ρ1, R1, h.mp fun q _ z v H' R' r' _ => z v H' R' r'⟩
  | _ => exact h.elim
def mUn (g : D → Res D) (fa : EvF) : EvF := fun ρ => bnd (fa ρ) fun p => bnd (pur (g p.1)) fun z => .ok (z, p.2)
def negD : D → Res D
  | .int i => .ok (.int (-i))
  | _ => stuck
theorem de_neg (ha : PE X a (tE X.K J fa)) : PE X (.UnaryOp .USub a pos) (tE X.K J (mUn negD fa)) := by
  refine PE.by (pe_un un_neg ha) ?_
  rintro σ H Q ⟨G, ρ, R, h⟩
  refine ⟨G, ρ, R, h.bnd fun p h x H1 R1 r1 => ?_⟩
  obtain ⟨d, ρ1⟩ := p
  obtain ⟨z, h2, h⟩ := h.pur
  cases d with
  | int i => cases h2; exact ⟨i, r1.int_inv, fun _ => h _ _ R1 (.int _)⟩
  | _ => cases h2

/-! ## argument lists, displays -/
def mNil : EvA := fun ρ => .ok ([], ρ)
def mCons (fa : EvF) (fs : EvA) : EvA := fun ρ => bnd (fa ρ) fun p => bnd (fs p.2) fun q => .ok (p.1 :: q.1, q.2)
theorem da_nil : PA X [] (tA X.K J mNil) := by
  refine PA.by pa_nil ?_
  rintro σ H Q ⟨G, ρ, R, h⟩
  exact fun _ => h _ _ R .nil
theorem da_cons (ha : PE X a (tE X.K J fa)) (hs : PA X es (tA X.K J fs)) (hst : starEach (a :: es) X.env = (false, eval a X.env) :: starEach es X.env := by rfl) : PA X (a :: es) (tA X.K J (mCons fa fs)) := by
  refine PA.by (pa_cons ha hs hst) ?_
  rintro σ H Q ⟨G, ρ, R, h⟩
  refine ⟨G, ρ, R, h.bnd fun p h x H1 R1 r1 => ?_⟩
  refine ⟨G.hold x p.1, p.2, R1.hold r1, h.hold.bnd fun q h y H2 R2 r2 _ => ?_⟩
  obtain ⟨R2, r1'⟩ := R2.unhold
  exact h _ _ R2 (.cons r1' r2)
/-- (a, b, ..); at most a thousand items -/
def mTup (fs : EvA) : EvF := fun ρ => bnd (fs ρ) fun p => if p.1.length ≤ 1000 then .ok (.tuple p.1, p.2) else stuck
theorem k1000 {n : Nat} (h : n ≤ 1000) : n ≤ sizeLine := Nat.le_of_lt (small1000 h)
theorem Same.upd {H : Hp} {p : Addr} {o : HO} (h : H p = none) : Same H (upd H p o) := fun b u e => by rw [upd_ne (ne_of_none e h)]; exact e
theorem de_tup {x1 : Nat} (h : PA X es (tA X.K J fs)) : PE X (.Tuple es x1 pos) (tE X.K J (mTup fs)) := by
  refine PE.by (pe_tup h) ?_
  rintro σ H Q ⟨G, ρ, R, h⟩
  refine ⟨G, ρ, R, h.bnd fun p h vs H1 R1 r1 => ?_⟩
  split at h
  · rename_i hl
    refine ⟨by rw [r1.len]; exact k1000 hl, fun a hp kf => ?_⟩
    have s : Same H1 (upd H1 a (.tup vs)) := Same.upd hp
    exact h _ _ (R1.same kf s) (.tup (R1.nown hp) (SqT.of upd_same) (r1.same s))
  · exact h.elim
/-- [a, b, ..], a new list -/
def mLst (fs : EvA) : EvA := fun ρ => bnd (fs ρ) fun p => if p.1.length ≤ 1000 then .ok p else stuck
theorem Rel.nfx {K : PySem.W.Frag} {G : Gh} {ρ : DEnv} {σ : St} {H : Hp} {p : Addr} (R : Rel K J G ρ σ H) (hp : H p = none) : ∀ o, ¬ G.fx p o := fun o z => by
  have := R.keep p o z
  rw [hp] at this
  cases this
theorem dl_lst (h : PA X es (tA X.K J fs)) : PE X (.List es pos) (tL X.K J (mLst fs)) := by
  refine PE.by (pe_lst h) ?_
  rintro σ H Q ⟨G, ρ, R, h⟩
  refine ⟨G, ρ, R, h.bnd fun p h vs H1 R1 r1 => ?_⟩
  split at h
  · rename_i hl
    refine ⟨by rw [r1.len]; exact k1000 hl, fun a hp kf => ?_⟩
    have s : Same H1 (upd H1 a (.lst vs)) := Same.upd hp
    exact h a vs _ (R1.fresh hp kf) upd_same (((r1.off (kf.free upd_same) hp).weak fun b z => mm_add.mp z).same s) (R1.nown hp) (R1.nfx hp)
  · exact h.elim
/-- a new list as data -/
def mOfL (fs : EvA) : EvF := fun ρ => bnd (fs ρ) fun p => .ok (.list p.1, p.2)
theorem de_ofL (h : PE X e (tL X.K J fs)) : PE X e (tE X.K J (mOfL fs)) := by
  refine PE.by h ?_
  rintro σ H Q ⟨G, ρ, R, h⟩
  refine ⟨G, ρ, R, h.bnd fun p h a vs H' R' ha hx hM hf kf => ?_⟩
  exact h _ _ R'.unadd (.lst hM (SqL.of ha) (hx.weak fun b z => mm_add.mpr (.inl z)))
/-- a new list as an object -/
def mNL (fs : EvA) : EvN := fun ρ => bnd (fs ρ) fun p => .ok (.lst p.1, p.2)
theorem dn_ofL (h : PE X e (tL X.K J fs)) : PE X e (tN X.K J (mNL fs)) := by
  refine PE.by h ?_
  rintro σ H Q ⟨G, ρ, R, h⟩
  exact ⟨G, ρ, R, h.bnd fun p h a vs H' R' ha hx hM hf kf => h a _ H' R' ha (.lst hx) hM hf⟩
/-- a new object as data -/
def mOfN (f : EvN) : EvF := fun ρ => bnd (f ρ) fun p => match p.1.dat with | some d => .ok (d, p.2) | none => stuck
theorem de_ofN {fn : EvN} (h : PE X e (tN X.K J fn)) : PE X e (tE X.K J (mOfN fn)) := by
  refine PE.by h ?_
  rintro σ H Q ⟨G, ρ, R, h⟩
  refine ⟨G, ρ, R, h.bnd fun p h a u H' R' ha hx hM hf kf => ?_⟩
  split at h
  · rename_i d e
    exact h _ _ R'.unadd ((hx.weak fun b z => mm_add.mpr (.inl z)).dat e ha hM)
  · exact h.elim

/-! ## what is read at once -/
def seqD : D → Res (Bool × List D)
  | .list xs => .ok (false, xs)
  | .tuple xs => .ok (true, xs)
  | _ => stuck
def mView (f : EvF) : EvV := fun ρ => bnd (f ρ) fun p => bnd (pur (seqD p.1)) fun z => .ok (z, p.2)
theorem dv_of (h : PE X e (tE X.K J f)) : PE X e (tW X.K J (mView f)) := by
  refine PE.by h ?_
  rintro σ H Q ⟨G, ρ, R, h⟩
  refine ⟨G, ρ, R, h.bnd fun p h v H' R' r _ => ?_⟩
  obtain ⟨z, h2, h⟩ := h.pur
  obtain ⟨d, ρ1⟩ := p
  cases d with
  | list ds =>
    cases h2
    obtain ⟨a, vs, rfl, n, q, r⟩ := r.list_inv
    exact h a vs H' R' q r fun z => Bool.noConfusion z
  | tuple ds =>
    cases h2
    obtain ⟨a, vs, rfl, n, q, r⟩ := r.tup_inv
    exact h a vs H' R' q r fun _ => n
  | _ => cases h2
def mOwn (i : Nat) : EvV := fun ρ => match ρ[i]? with | some (some (Sl.ob _ (.lst xs))) => .ok ((false, xs), ρ) | _ => stuck
theorem dv_own (i : Nat) {x : Str} (hN : X.N[i]? = some x := by rfl) (hv : Vis X.env.scope x := by first | exact Or.inl rfl | exact Or.inr (Or.inl rfl) | exact Or.inr (Or.inr rfl)) (hd : (x == ("__debug__" : Str)) = false := by decide)
    (hcd : (x == ("__classdict__" : Str)) = false := by decide) : PE X (.Name x pos) (tW X.K J (mOwn i)) := by
  refine PE.by (pv i hN hv hd hcd) ?_
  rintro σ H Q ⟨G, ρ, R, h⟩
  unfold mOwn at h
  split at h
  · rename_i b ys e
    obtain ⟨a, u, h1, h2, h3, _⟩ := R.own i b _ e
    cases h3 with
    | lst r => exact ⟨.ref a, h1, fun _ => h a _ H R (SqL.of h2) r fun z => Bool.noConfusion z⟩
  · exact h.elim
end
end L2.DL

namespace L2.DL
open PySem PySem.Spec PyProof.Rows

/-! ## tables: keys are ints and texts -/
def kk : D → Option Key
  | .int i => some (.inl i)
  | .str x => some (.inr x)
  | _ => none
def keq : D → D → Bool
  | .int i, .int j => decide (i = j)
  | .str x, .str y => decide (x = y)
  | _, _ => false
def dFind (kvs : List (D × D)) (k : D) : Option D := (kvs.find? fun p => keq p.1 k).map (·.2)
def dHas (kvs : List (D × D)) (k : D) : Bool := kvs.any fun p => keq p.1 k
def dPut (kvs : List (D × D)) (k v : D) : List (D × D) := if dHas kvs k = true then kvs.map (fun p => if keq p.1 k then (p.1, v) else p) else kvs ++ [(k, v)]
def dDrop (kvs : List (D × D)) (k : D) : List (D × D) := kvs.filter fun p => !keq p.1 k
def dMerge (kvs more : List (D × D)) : List (D × D) := more.foldl (fun acc p => dPut acc p.1 p.2) kvs
def isKey (k : D) : Bool := (kk k).isSome
theorem kk_kD (k : Key) : kk (kD k) = some k := by cases k <;> rfl
theorem kk_inv {d : D} {k : Key} (h : kk d = some k) : d = kD k := by
  cases d <;> simp [kk] at h <;> subst h <;> rfl
theorem keq_kD (k j : Key) : keq (kD k) (kD j) = decide (k = j) := by
  cases k <;> cases j <;> simp [kD, keq]
theorem dHas_find (kvs : List (D × D)) (k : D) : dHas kvs k = (dFind kvs k).isSome := by
  unfold dHas dFind
  induction kvs with
  | nil => rfl
  | cons p r ih =>
    rw [List.any_cons, List.find?_cons]
    cases h : keq p.1 k with
    | true => rfl
    | false => rw [Bool.false_or, ih]
section
variable {K : PySem.W.Frag} {M : Addr → Prop} {H : Hp}
theorem Rp.kD_inv {v : V} {k : Key} (h : Rp K M H v (kD k)) : v = kV k := by
  cases k with
  | inl i => exact h.int_inv
  | inr x => exact h.str_inv
abbrev RpKK (K : PySem.W.Frag) (M : Addr → Prop) (H : Hp) (hk : List (Key × V)) (kvs : List (D × D)) : Prop := RpK K M H (hk.map fun p => (kD p.1, p.2)) kvs
theorem RpKK.cases {hk : List (Key × V)} {kvs : List (D × D)} (h : RpKK K M H hk kvs) : (hk = [] ∧ kvs = []) ∨ ∃ k v r d t, hk = (k, v) :: r ∧ kvs = (kD k, d) :: t ∧ Rp K M H v d ∧ RpKK K M H r t := by
  cases hk with
  | nil => cases h; exact .inl ⟨rfl, rfl⟩
  | cons p r =>
    unfold RpKK at h
    rw [List.map_cons] at h
    cases h with
    | cons h1 h2 => exact .inr ⟨p.1, p.2, r, _, _, rfl, rfl, h1, h2⟩
theorem RpKK.nil : RpKK K M H [] [] := RpK.nil
theorem RpKK.cons {k : Key} {v : V} {d : D} {r : List (Key × V)} {t : List (D × D)} (h1 : Rp K M H v d) (h2 : RpKK K M H r t) : RpKK K M H ((k, v) :: r) ((kD k, d) :: t) := by
  unfold RpKK
  rw [List.map_cons]
  exact .cons h1 h2
theorem RpKK.len : ∀ {hk : List (Key × V)} {kvs : List (D × D)}, RpKK K M H hk kvs → hk.length = kvs.length := by
  intro hk
  induction hk with
  | nil => intro kvs h; rcases h.cases with ⟨_, rfl⟩ | ⟨_, _, _, _, _, e, _⟩
           · rfl
           · cases e
  | cons p r ih =>
    intro kvs h
    rcases h.cases with ⟨e, _⟩ | ⟨k, v, r', d, t, e, rfl, h1, h2⟩
    · cases e
    · cases e
      rw [List.length_cons, List.length_cons, ih h2]
def RelOD (K : PySem.W.Frag) (M : Addr → Prop) (H : Hp) : Option V → Option D → Prop
  | some v, some d => Rp K M H v d
  | none, none => True
  | _, _ => False
theorem RpKK.find (k : Key) : ∀ {hk : List (Key × V)} {kvs : List (D × D)}, RpKK K M H hk kvs → RelOD K M H (valV hk k) (dFind kvs (kD k)) := by
  intro hk
  induction hk with
  | nil => intro kvs h; rcases h.cases with ⟨_, rfl⟩ | ⟨_, _, _, _, _, e, _⟩
           · exact True.intro
           · cases e
  | cons p r ih =>
    intro kvs h
    rcases h.cases with ⟨e, _⟩ | ⟨k', v, r', d, t, e, rfl, h1, h2⟩
    · cases e
    · cases e
      unfold dFind
      rw [List.find?_cons]
      show RelOD K M H (valV ((k', v) :: r) k) (Option.map _ (match keq (kD k') (kD k) with | true => some (kD k', d) | false => List.find? (fun p => keq p.1 (kD k)) t))
      rw [keq_kD]
      by_cases q : k' = k
      · rw [valV_pos q, decide_eq_true q]
        exact h1
      · rw [valV_neg q, decide_eq_false q]
        exact ih h2
theorem RpKK.has {hk : List (Key × V)} {kvs : List (D × D)} (k : Key) (h : RpKK K M H hk kvs) : (valV hk k).isSome = dHas kvs (kD k) := by
  rw [dHas_find]
  have := h.find k
  revert this
  cases valV hk k <;> cases dFind kvs (kD k) <;> simp [RelOD]
theorem RpKK.append : ∀ {hk hk2 : List (Key × V)} {kvs kvs2 : List (D × D)}, RpKK K M H hk kvs → RpKK K M H hk2 kvs2 → RpKK K M H (hk ++ hk2) (kvs ++ kvs2) := by
  intro hk
  induction hk with
  | nil => intro hk2 kvs kvs2 h q; rcases h.cases with ⟨_, rfl⟩ | ⟨_, _, _, _, _, e, _⟩
           · exact q
           · cases e
  | cons p r ih =>
    intro hk2 kvs kvs2 h q
    rcases h.cases with ⟨e, _⟩ | ⟨k', v, r', d, t, e, rfl, h1, h2⟩
    · cases e
    · cases e
      exact .cons h1 (ih h2 q)
theorem RpKK.repl (k : Key) {v : V} {d : D} (r : Rp K M H v d) : ∀ {hk : List (Key × V)} {kvs : List (D × D)}, RpKK K M H hk kvs →
    RpKK K M H (hk.map fun kv => if kv.1 = k then (kv.1, v) else kv) (kvs.map fun p => if keq p.1 (kD k) then (p.1, d) else p) := by
  intro hk
  induction hk with
  | nil => intro kvs h; rcases h.cases with ⟨_, rfl⟩ | ⟨_, _, _, _, _, e, _⟩
           · exact .nil
           · cases e
  | cons p r' ih =>
    intro kvs h
    rcases h.cases with ⟨e, _⟩ | ⟨k', v', r', d', t, e, rfl, h1, h2⟩
    · cases e
    · cases e
      rw [List.map_cons, List.map_cons]
      simp only [keq_kD]
      by_cases q : k' = k
      · rw [if_pos q, if_pos (by simpa using q)]
        exact .cons r (ih h2)
      · rw [if_neg q, if_neg (by simpa using q)]
        exact .cons h1 (ih h2)
theorem RpKK.put {hk : List (Key × V)} {kvs : List (D × D)} {v : V} {d : D} (k : Key) (h : RpKK K M H hk kvs) (r : Rp K M H v d) : RpKK K M H (putK hk k v) (dPut kvs (kD k) d) := by
  unfold putK dPut
  rw [valV_any, h.has k]
  split
  · exact h.repl k r
  · exact h.append (.cons r .nil)
theorem RpKK.merge : ∀ {more : List (Key × V)} {md : List (D × D)} {hk : List (Key × V)} {kvs : List (D × D)}, RpKK K M H more md → RpKK K M H hk kvs → RpKK K M H (mergeK hk more) (dMerge kvs md) := by
  intro more
  induction more with
  | nil => intro md hk kvs h q; rcases h.cases with ⟨_, rfl⟩ | ⟨_, _, _, _, _, e, _⟩
           · exact q
           · cases e
  | cons p r ih =>
    intro md hk kvs h q
    rcases h.cases with ⟨e, _⟩ | ⟨k', v, r', d, t, e, rfl, h1, h2⟩
    · cases e
    · cases e
      exact ih (md := t) (kvs := dPut kvs (kD k') d) h2 (q.put k' h1)
theorem RpKK.drop (k : Key) : ∀ {hk : List (Key × V)} {kvs : List (D × D)}, RpKK K M H hk kvs → RpKK K M H (dropK hk k) (dDrop kvs (kD k)) := by
  intro hk
  unfold dropK dDrop
  induction hk with
  | nil => intro kvs h; rcases h.cases with ⟨_, rfl⟩ | ⟨_, _, _, _, _, e, _⟩
           · exact .nil
           · cases e
  | cons p r ih =>
    intro kvs h
    rcases h.cases with ⟨e, _⟩ | ⟨k', v, r', d, t, e, rfl, h1, h2⟩
    · cases e
    · cases e
      rw [List.filter_cons, List.filter_cons]
      simp only [keq_kD]
      by_cases q : k' = k
      · have e1 : decide (k' ≠ k) = false := by simpa using q
        have e2 : decide (k' = k) = true := by simpa using q
        simp only [e1, e2, Bool.not_true, Bool.false_eq_true, if_false]
        exact ih h2
      · have e1 : decide (k' ≠ k) = true := by simpa using q
        have e2 : decide (k' = k) = false := by simpa using q
        simp only [e1, e2, Bool.not_false, if_true]
        exact .cons h1 (ih h2)
theorem RpKK.move' {M' : Addr → Prop} {H' : Hp} {hk : List (Key × V)} {kvs : List (D × D)} (h : RpKK K M H hk kvs) (s : Same H H') (w : ∀ a, M' a → M a) : RpKK K M' H' hk kvs := h.mono w (Keeps.same s)
theorem Rp.dict_inv {v : V} {kvs : List (D × D)} (h : Rp K M H v (.dict kvs)) : ∃ a hk, v = .ref a ∧ ¬ M a ∧ H a = some (.dK hk) ∧ RpKK K M H hk kvs := by
  cases h with
  | dicK n q r => exact ⟨_, _, rfl, n, q, r⟩
end
/-- d[k] -/
def dIx (kvs : List (D × D)) (k : D) : Res D := if isKey k then (match dFind kvs k with | some d => .ok d | none => stuck) else stuck
/-- k in d -/
def dIn (neg : Bool) (kvs : List (D × D)) (k : D) : Res Bool := if isKey k then .ok (if neg then !dHas kvs k else dHas kvs k) else stuck
section
variable {X : Cx}
theorem op_inD {pins : List (Addr × Obj)} {s : Shared} {σ : St} {H : Hp} {x y : V} {v u : Value} {Q : VK} {neg : Bool} {M N : Addr → Prop} {d : D} {kvs : List (D × D)} {b : Bool} (I : Inv X pins σ H s) (rx : RelV x v) (ry : RelV y u)
    (hu : X.A.units + 64 < cLine) (hd : Rp X.K M H x d) (he : ∃ a hk, y = .ref a ∧ H a = some (.dK hk) ∧ RpKK X.K N H hk kvs) (hg : dIn neg kvs d = .ok b) (hq : Q (.bl b) H) : wpAny (model X.prog X.w) X.A (compareOp (if neg then .NotIn else .In) v u) (EP X pins σ Q) X.xe s := by
  obtain ⟨a, hk, rfl, ha, r⟩ := he
  unfold dIn isKey at hg
  cases e : kk d with
  | none => rw [e] at hg; cases hg
  | some k =>
    rw [e] at hg
    obtain rfl := kk_inv e
    obtain rfl := hd.kD_inv
    obtain rfl : u = .ref a := ry
    cases neg with
    | true =>
      refine d_notIn (by omega) I (DGet.k ha) rx fun s' I' => ⟨.bl (!(valV hk k).isSome), H, I', rfl, ?_⟩
      cases hg
      rw [← r.has k] at hq
      exact hq
    | false =>
      refine d_in (by omega) I (DGet.k ha) rx fun s' I' => ⟨.bl (valV hk k).isSome, H, I', rfl, ?_⟩
      cases hg
      rw [← r.has k] at hq
      exact hq
/-- d[k], the value's tail -/
theorem ix_dict {value slice : Expr} {pins : List (Addr × Obj)} {s : Shared} {σ : St} {H : Hp} {x y : V} {v u : Value} {Q : VK} {M N : Addr → Prop} {d z : D} {kvs : List (D × D)} (I : Inv X pins σ H s) (rx : RelV x v) (ry : RelV y u)
    (hu : X.A.units + 64 < cLine) (hd : ∃ a hk, x = .ref a ∧ H a = some (.dK hk) ∧ RpKK X.K N H hk kvs) (he : Rp X.K M H y d) (hg : dIx kvs d = .ok z) (hq : ∀ v, Rp X.K N H v z → Q v H) (hs : subscripted slice false v u = operate [v, u] (getItem v u)) :
    wpAny (model X.prog X.w) X.A (subscriptTail value slice v u) (EP X pins σ Q) X.xe s := by
  obtain ⟨a, hk, rfl, ha, r⟩ := hd
  unfold dIx isKey at hg
  cases e : kk d with
  | none => rw [e] at hg; cases hg
  | some k =>
    rw [e] at hg
    obtain rfl := kk_inv e
    obtain rfl := he.kD_inv
    obtain rfl : v = .ref a := rx
    have rf := r.find k
    cases ef : dFind kvs (kD k) with
    | none => simp [ef] at hg
    | some w =>
      simp [ef] at hg
      subst hg
      rw [ef] at rf
      cases ev : valV hk k with
      | none => rw [ev] at rf; exact rf.elim
      | some x =>
        rw [ev] at rf
        have g : DGet H a (kV k) (some x) := by rw [← ev]; exact DGet.k ha
        have hT := dict_typeIs I g
        unfold subscriptTail
        refine wpAny_bind ?_
        rw [getitemInPython_of_ne hT.not_modules]
        refine wpAny_bind (wpAny_specialOf hT PySem.F.slot_dict_getitem.lookup ?_)
        have fin : wpAny (model X.prog X.w) X.A (subscripted slice false (Value.ref a) u) (fun r s₃ => wpAny (model X.prog X.w) X.A (letTemporaryGo value (.ref a) r >>= fun _ => pure r) (EP X pins σ Q) X.xe s₃) X.xe s := by
          rw [hs]
          exact wpAny_operating (d_getItem (by omega) I g ry fun w' s3 I3 rw' => wpAny_bind (wpAny_letTemporaryGo (wpAny_pure ⟨x, H, I3, rw', hq x rf⟩)))
        first
          | exact wpAny_pure (wpAny_bind fin)
          | exact wpAny_bind (wpAny_pure (wpAny_bind fin))
          | exact wpAny_bind fin
end
end L2.DL

namespace L2.DL
open PySem PySem.Spec PyProof.Rows

section
variable {X : Cx} {pins : List (Addr × Obj)} {σ : St} {H : Hp} {s : Shared} {M : Addr → Prop}
theorem Rp.reads {v : V} {d : D} {u : Value} (I : Inv X pins σ H s) (p : d.plain = true) (h : Rp X.K M H v d) (r : RelV v u) : ∃ as, Reads s.heap u d as := Dp.reads I d v u (h.dp p) r
theorem RpA.reads {vs : List V} {ds : List D} {us : List Value} (I : Inv X pins σ H s) (p : PyData.plainAll ds = true) (h : RpA X.K M H vs ds) (r : Vals vs us) : ∃ as, ReadsAll s.heap us ds as := Dp.readsAll I ds vs us (h.dp p) r
end

/-! ## arithmetic -/
def lim : Nat := 1000000
theorem lim_le {n : Nat} (h : n ≤ lim) : n ≤ sizeLine := by
  have : lim ≤ sizeLine := by decide
  omega
def addD : D → D → Res D
  | .int i, .int j => .ok (.int (i + j))
  | .str x, .str y => if x.length + y.length ≤ lim then .ok (.str (x ++ y)) else stuck
  | .list xs, .list ys => if xs.length + ys.length ≤ lim then .ok (.list (xs ++ ys)) else stuck
  | .tuple xs, .tuple ys => if xs.length + ys.length ≤ lim then .ok (.tuple (xs ++ ys)) else stuck
  | _, _ => stuck
def subD : D → D → Res D
  | .int i, .int j => .ok (.int (i - j))
  | _, _ => stuck
def sm (i : Int) : Bool := decide (-(2 ^ 64) < i ∧ i < 2 ^ 64)
def repD (xs : List D) (n : Int) : List D := (List.replicate n.toNat xs).flatten
def mulD : D → D → Res D
  | .int i, .int j => if sm i || sm j then .ok (.int (i * j)) else stuck
  | .list xs, .int n => if -(2 ^ 63) ≤ n ∧ n < 2 ^ 63 ∧ xs.length * n.toNat ≤ lim then .ok (.list (repD xs n)) else stuck
  | .tuple xs, .int n => if xs ≠ [] ∧ 1 ≤ n ∧ n ≤ 1000 ∧ xs.length ≤ 1000 then .ok (.tuple (if n = 1 then xs else repD xs n)) else stuck
  | _, _ => stuck
def fdivD : D → D → Res D
  | .int i, .int j => if j ≠ 0 ∧ j.natAbs < 1073741824 then .ok (.int (i.fdiv j)) else stuck
  | _, _ => stuck
def modD : D → D → Res D
  | .int i, .int j => if j ≠ 0 then .ok (.int (i.fmod j)) else stuck
  | _, _ => stuck
def powD : D → D → Res D
  | .int i, .int j => if 0 ≤ j ∧ j ≤ 1000000 ∧ i.natAbs < 2 ^ 64 then .ok (.int (i ^ j.toNat)) else stuck
  | _, _ => stuck
theorem ite_ok {α : Type} {c : Prop} [Decidable c] {x : α} {y : α} (h : (if c then Except.ok x else stuck : Res α) = .ok y) : c ∧ x = y := by
  split at h
  · rename_i hc; exact ⟨hc, by injection h⟩
  · cases h
section
variable {X : Cx}
/-- a list that is read, joined with another one -/
theorem cat_lists {pins : List (Addr × Obj)} {σ : St} {H : Hp} {s : Shared} {l b : Addr} {xs zs : List V} {Q : VK} (I : Inv X pins σ H s) (hH : SqL X.K H l xs) (hB : SqL X.K H b zs) (hz : xs.length + zs.length ≤ sizeLine)
    (q : ∀ p, H p = none → Q (.ref p) (upd H p (.lst (xs ++ zs)))) : wpAny (model X.prog X.w) X.A (binaryOp .Add (.ref l) (.ref b)) (EP X pins σ Q) X.xe s := by
  obtain ⟨its, r, ⟨⟨cls, dd, data, sl⟩, n, e, hc, hd, hx⟩, _⟩ := I.list hH
  obtain ⟨its2, r2, ⟨⟨cls2, dd2, data2, sl2⟩, n2, e2, hc2, hd2, hx2⟩, _⟩ := I.list hB
  simp only at hc hd hx hc2 hd2 hx2
  subst hc hd hx hc2 hd2 hx2
  have l1 := r.length
  have l2 := r2.length
  have hsz : its.toArray.size + its2.toArray.size ≤ sizeLine := by rw [List.size_toArray, List.size_toArray, ← l1, ← l2]; exact hz
  refine PySem.concat_meets ⟨_, e, rfl⟩ ⟨_, e2, rfl⟩ PySem.noFill_list_add PySem.seq_list_add PySem.F.slot_list_add PySem.F.entry_list_add (PySem.F.args_list_add_2 _ _) (PyProof.Rows.list_addW l b its.toArray its2.toArray n n2 none none sl sl2 hsz) ⟨e, e2, ?_⟩
  have ea : its.toArray ++ its2.toArray = (its ++ its2).toArray := by simp
  rw [ea]
  exact ⟨.ref _, _, I.lnew (t' := s.toks) (r.append r2) (by rw [List.length_append]; omega), rfl, q _ I.fresh⟩
theorem nM {M : Addr → Prop} {H : Hp} {p : Addr} (hm : ∀ a, M a → H a ≠ none) (hp : H p = none) : ¬ M p := fun z => hm p z hp
theorem od_add : OpR X (binaryOp .Add) (rD X.K addD) := by
  rintro pins s σ H x y v u Q I rx ry ⟨M, d, e, z, hd, he, hm, hg, hq⟩
  unfold addD at hg
  split at hg
  · cases hg
    cases hd; cases he
    exact op_add pins s σ H _ _ v u Q I rx ry ⟨_, _, rfl, rfl, hq _ _ (Same.refl _) (.int _)⟩
  · obtain ⟨hl, rfl⟩ := ite_ok hg
    cases hd; cases he
    exact op_add_str pins s σ H _ _ v u Q I rx ry ⟨_, _, rfl, rfl, lim_le hl, hq _ _ (Same.refl _) (.str _)⟩
  · obtain ⟨hl, rfl⟩ := ite_ok hg
    obtain ⟨a, vs, rfl, n1, q1, r1⟩ := hd.list_inv
    obtain ⟨b, ws, rfl, n2, q2, r2⟩ := he.list_inv
    cases rx
    cases ry
    refine cat_lists I q1 q2 (by rw [r1.len, r2.len]; exact lim_le hl) fun p hp => ?_
    exact hq _ _ (Same.upd hp) (.lst (nM hm hp) (SqL.of upd_same) ((r1.append r2).same (Same.upd hp)))
  · obtain ⟨hl, rfl⟩ := ite_ok hg
    obtain ⟨a, vs, rfl, n1, q1, r1⟩ := hd.tup_inv
    obtain ⟨b, ws, rfl, n2, q2, r2⟩ := he.tup_inv
    refine op_catA pins s σ H _ _ v u Q I rx ry ⟨a, b, vs, ws, rfl, rfl, q1, q2, by rw [r1.len, r2.len]; exact lim_le hl, fun h0 => ?_, fun _ h0 => ?_, fun _ _ p hp => ?_⟩
    · subst h0
      cases r1
      exact hq _ _ (Same.refl _) (.tup n2 q2 r2)
    · subst h0
      cases r2
      rw [List.append_nil] at hq
      exact hq _ _ (Same.refl _) (.tup n1 q1 r1)
    · exact hq _ _ (Same.upd hp) (.tup (nM hm hp) (SqT.of upd_same) ((r1.append r2).same (Same.upd hp)))
  · cases hg
theorem od_sub : OpR X (binaryOp .Sub) (rD X.K subD) := by
  rintro pins s σ H x y v u Q I rx ry ⟨M, d, e, z, hd, he, hm, hg, hq⟩
  unfold subD at hg
  split at hg
  · cases hg
    cases hd; cases he
    exact op_sub pins s σ H _ _ v u Q I rx ry ⟨_, _, rfl, rfl, hq _ _ (Same.refl _) (.int _)⟩
  · cases hg
theorem sm_or {i j : Int} (h : (sm i || sm j) = true) : CMul i j := by
  rcases Bool.or_eq_true _ _ ▸ h with h | h
  · exact .inl (of_decide_eq_true h)
  · exact .inr (of_decide_eq_true h)
theorem RpA.rep {K : PySem.W.Frag} {M : Addr → Prop} {H : Hp} {vs : List V} {ds : List D} (r : RpA K M H vs ds) : ∀ n : Nat, RpA K M H (List.replicate n vs).flatten (List.replicate n ds).flatten
  | 0 => .nil
  | n + 1 => by
    rw [List.replicate_succ, List.replicate_succ, List.flatten_cons, List.flatten_cons]
    exact r.append (r.rep n)
theorem int_rmul_list (a : Int) (t : Tok) (l : Addr) (items : Array Value) (n : Nat) (sl : Array (Option Value)) :
    Meets (Builtin.«int.__rmul__» ⟨[.int a t, .ref l], []⟩) (fun _ R s => s.heap.get? l = some { cls := .type "list", dict := none, data := .seq items n, slots := sl } ∧ R (.ok (.ret Value.notImplemented)) s) := by
  refine .of_wp fun prog w A R s h => ?_
  obtain ⟨hp, g, d, tk, os⟩ := s
  obtain ⟨hl, h⟩ := h
  wp_walk using wpAny_loadPart' hl
  exact ⟨_, rfl, h⟩
theorem list_mulW (l : Addr) (items : Array Value) (n : Nat) (sl : Array (Option Value)) (x : Int) (u : Tok) (c0 : ¬(!Builtin.List.listFitsIndex x) = true) (c1 : ¬items.size * x.toNat > (2 ^ 63 - 1) / 8) (c2 : ¬Builtin.List.listTooLong (items.size * x.toNat) = true) :
    Meets (Builtin.«list.__mul__» ⟨[.ref l, .int x u], []⟩) (fun _ R s => s.heap.get? l = some { cls := .type "list", dict := none, data := .seq items n, slots := sl } ∧
      R (.ok (.ret (Value.ref s.heap.objs.size))) { s with heap := s.heap.push { cls := Value.type "list", data := Data.seq (List.foldl (fun x1 x2 => x1 ++ x2) #[] (List.replicate (if items.isEmpty = true then 0 else x.toNat) items)) }, toks := s.toks }) := by
  refine .of_wp fun prog w A R s h => ?_
  obtain ⟨hp, g, d, tk, os⟩ := s
  obtain ⟨hl, h⟩ := h
  have hsz := AutoListH.joined_fits c2
  wp_walk using wpAny_loadPart' hl
  refine wpAny_ite_false (decide_eq_false (Nat.not_lt.mpr hsz)) ?_
  wp_walk using wpAny_loadPart' hl
  exact ⟨_, rfl, h⟩
theorem rep_list {pins : List (Addr × Obj)} {σ : St} {H : Hp} {s : Shared} {l : Addr} {xs : List V} {k : Int} {t : Tok} {Q : VK} (I : Inv X pins σ H s) (hH : SqL X.K H l xs) (h1 : -(2 ^ 63) ≤ k) (h2 : k < 2 ^ 63) (hz : xs.length * k.toNat ≤ sizeLine)
    (q : ∀ p, H p = none → Q (.ref p) (upd H p (.lst (List.replicate k.toNat xs).flatten))) : wpAny (model X.prog X.w) X.A (binaryOp .Mult (.ref l) (.int k t)) (EP X pins σ Q) X.xe s := by
  obtain ⟨its, r, ⟨⟨cls, dd, data, sl⟩, n, e, hc, hd, hx⟩, _⟩ := I.list hH
  simp only at hc hd hx
  subst hc hd hx
  have hl := r.length
  have z1 : its.toArray.size * k.toNat ≤ sizeLine := by rw [List.size_toArray, ← hl]; exact hz
  have z2 : ¬ its.toArray.size * k.toNat > (2 ^ 63 - 1) / 8 := by
    have : (sizeLine : Nat) ≤ (2 ^ 63 - 1) / 8 := by decide
    omega
  have z3 : ¬ (!Builtin.List.listFitsIndex k) = true := by rw [fitsIndex_both h1 h2]; exact Bool.false_ne_true
  have z4 : ¬ Builtin.List.listTooLong (its.toArray.size * k.toNat) = true := by rw [notLongL z1]; exact Bool.false_ne_true
  have fl : ∀ m : Nat, List.foldl (fun x1 x2 => x1 ++ x2) #[] (List.replicate m its.toArray) = (List.replicate m its).flatten.toArray := fun m => by
    have z := foldl_rep its m []
    rwa [List.nil_append] at z
  have hnew : List.foldl (fun x1 x2 => x1 ++ x2) #[] (List.replicate (if its.toArray.isEmpty = true then 0 else k.toNat) its.toArray) = (List.replicate k.toNat its).flatten.toArray := by
    rw [fl]
    cases its with
    | nil => simp
    | cons a as => rw [if_neg (by simp)]
  have step := list_mulW l its.toArray n sl k t z3 z2 z4
  refine PySem.wpAny_binaryOp_repeat_ref (T := "list") (U := "int") (by decide) ⟨_, e, rfl⟩ (fun s' => PySem.typeIs_int s' k t) PySem.noFill_list_mul PySem.F.fills_int_mul PySem.F.slot_int_rmul PySem.repeat_list PySem.F.slot_int_index.lookup ?_
  refine PySem.call_meets PySem.F.slot_int_rmul (PySem.typeIs_int s k t) PySem.F.entry_int_rmul (PySem.F.args_int_rmul_2 _ _) (int_rmul_list k t l its.toArray n sl) ⟨e, rfl, ⟨_, e, rfl⟩, ?_⟩
  refine PySem.call_meets PySem.F.slot_list_mul ⟨_, e, rfl⟩ PySem.F.entry_list_mul (PySem.F.args_list_mul_2 _ _) step ⟨e, ?_⟩
  rw [hnew]
  exact ⟨.ref _, _, I.lnew (t' := s.toks) (r.rep k.toNat) (by rw [PyProof.Rows.lm_len_rep_flat, Nat.mul_comm]; exact hz), rfl, q _ I.fresh⟩
theorem tuple_mul1 (l : Addr) (items : Array Value) (n : Nat) (dd : Option Addr) (sl : Array (Option Value)) (u : Tok) :
    Meets (Builtin.«tuple.__mul__» ⟨[.ref l, .int 1 u], []⟩) (fun _ R s => s.heap.get? l = some { cls := .type "tuple", dict := dd, data := .seq items n, slots := sl } ∧ R (.ok (.ret (Value.ref l))) s) :=
  .of_wp fun prog w A R s h => by
    obtain ⟨hp, g, d, tk, os⟩ := s
    obtain ⟨hl, h⟩ := h
    have f1 := AutoSeq1.idx_int
    wp_walk using wpAny_loadPart' hl
    exact ⟨_, rfl, h⟩
theorem od_mul : OpR X (binaryOp .Mult) (rD X.K mulD) := by
  rintro pins s σ H x y v u Q I rx ry ⟨M, d, e, z, hd, he, hm, hg, hq⟩
  unfold mulD at hg
  split at hg
  · obtain ⟨hl, rfl⟩ := ite_ok hg
    cases hd; cases he
    exact op_mul pins s σ H _ _ v u Q I rx ry ⟨_, _, rfl, rfl, sm_or hl, hq _ _ (Same.refl _) (.int _)⟩
  · obtain ⟨⟨h1, h2, h3⟩, rfl⟩ := ite_ok hg
    obtain ⟨a, vs, rfl, n1, q1, r1⟩ := hd.list_inv
    cases he
    cases rx
    obtain ⟨t, rfl⟩ := ry
    exact rep_list I q1 h1 h2 (by rw [r1.len]; exact lim_le h3) fun p hp => hq _ _ (Same.upd hp) (.lst (nM hm hp) (SqL.of upd_same) ((r1.rep _).same (Same.upd hp)))
  · obtain ⟨⟨h1, h2, h3, h4⟩, rfl⟩ := ite_ok hg
    obtain ⟨a, vs, rfl, n1, q1, r1⟩ := hd.tup_inv
    cases he
    split at hq
    · rename_i h5
      subst h5
      cases rx
      obtain ⟨t, rfl⟩ := ry
      obtain ⟨its, r, ⟨⟨cls, dd, data, sl⟩, ho, hc, n, hd2⟩, hs⟩ := I.tuple q1
      simp only at hc hd2
      subst hc hd2
      refine PySem.wpAny_binaryOp_repeat_ref (T := "tuple") (U := "int") (by decide) ⟨_, ho, rfl⟩ (fun s' => PySem.typeIs_int s' 1 t) noFill_tuple_mul PySem.F.fills_int_mul PySem.F.slot_int_rmul repeat_tuple PySem.F.slot_int_index.lookup ?_
      refine PySem.call_meets PySem.F.slot_int_rmul (PySem.typeIs_int s 1 t) PySem.F.entry_int_rmul (PySem.F.args_int_rmul_2 _ _) (int_rmul_tuple 1 t _ its.toArray n dd sl) ⟨ho, rfl, ⟨_, ho, rfl⟩, ?_⟩
      refine PySem.call_meets PySem.F.slot_tuple_mul ⟨_, ho, rfl⟩ PySem.F.entry_tuple_mul (PySem.F.args_tuple_mul_2 _ _) (tuple_mul1 _ its.toArray n dd sl t) ⟨ho, ?_⟩
      exact ⟨.ref _, H, I, rfl, hq _ _ (Same.refl _) (.tup n1 q1 r1)⟩
    · rename_i h5
      exact op_repT pins s σ H _ _ v u Q I rx ry ⟨a, _, vs, rfl, rfl, q1, (fun z => by subst z; cases r1; exact h1 rfl), by omega, h3, by rw [r1.len]; exact h4, fun p hp => hq _ _ (Same.upd hp) (.tup (nM hm hp) (SqT.of upd_same) ((r1.rep _).same (Same.upd hp)))⟩
  · cases hg
theorem od_fdiv : OpR X (binaryOp .FloorDiv) (rD X.K fdivD) := by
  rintro pins s σ H x y v u Q I rx ry ⟨M, d, e, z, hd, he, hm, hg, hq⟩
  unfold fdivD at hg
  split at hg
  · obtain ⟨hl, rfl⟩ := ite_ok hg
    cases hd; cases he
    exact op_fdivN pins s σ H _ _ v u Q I rx ry ⟨_, _, rfl, rfl, hl, hq _ _ (Same.refl _) (.int _)⟩
  · cases hg
theorem od_mod : OpR X (binaryOp .Mod) (rD X.K modD) := by
  rintro pins s σ H x y v u Q I rx ry ⟨M, d, e, z, hd, he, hm, hg, hq⟩
  unfold modD at hg
  split at hg
  · obtain ⟨hl, rfl⟩ := ite_ok hg
    cases hd; cases he
    exact op_modN pins s σ H _ _ v u Q I rx ry ⟨_, _, rfl, rfl, hl, hq _ _ (Same.refl _) (.int _)⟩
  · cases hg
theorem od_pow : OpR X (binaryOp .Pow) (rD X.K powD) := by
  rintro pins s σ H x y v u Q I rx ry ⟨M, d, e, z, hd, he, hm, hg, hq⟩
  unfold powD at hg
  split at hg
  · obtain ⟨hl, rfl⟩ := ite_ok hg
    cases hd; cases he
    exact op_pow pins s σ H _ _ v u Q I rx ry ⟨_, _, rfl, rfl, hl, hq _ _ (Same.refl _) (.int _)⟩
  · cases hg

/-! ## comparisons -/
def near (d e : D) : Bool := decide (min d.depth e.depth ≤ 60) && (d.plain && e.plain)
def eqD (d e : D) : Res Bool := if near d e then .ok (PyData.eqv d e) else stuck
def neD (d e : D) : Res Bool := if near d e then .ok (!PyData.eqv d e) else stuck
def isNone : D → Bool
  | .none => true
  | _ => false
def ltOk (d e : D) : Bool := PySem.W.alike d e && !isNone d && near d e
/-- x < y; of numbers by themselves -/
def ltD : D → D → Res Bool
  | .int i, .int j => .ok (decide (i < j))
  | d, e => if ltOk d e then .ok (PySem.W.dataLt d e) else stuck
def leD : D → D → Res Bool
  | .int i, .int j => .ok (decide (i ≤ j))
  | d, e => if ltOk d e then .ok (!PySem.W.dataLt e d) else stuck
def gtD : D → D → Res Bool
  | .int i, .int j => .ok (decide (j < i))
  | d, e => if ltOk d e then .ok (PySem.W.dataLt e d) else stuck
def geD : D → D → Res Bool
  | .int i, .int j => .ok (decide (j ≤ i))
  | d, e => if ltOk d e then .ok (!PySem.W.dataLt d e) else stuck
theorem near_inv {d e : D} (h : near d e = true) : decide (min d.depth e.depth ≤ 60) = true ∧ d.plain = true ∧ e.plain = true := by
  unfold near at h
  rw [Bool.and_eq_true, Bool.and_eq_true] at h
  exact h
theorem near_ok {A : Around} {d e : D} (h : near d e = true) (hu : A.units + 64 < cLine) : A.units + min d.depth e.depth < cLine := by
  have := of_decide_eq_true (near_inv h).1
  omega
theorem ltOk_inv {d e : D} (h : ltOk d e = true) : PySem.W.alike d e = true ∧ d ≠ .none ∧ near d e = true := by
  unfold ltOk at h
  rw [Bool.and_eq_true, Bool.and_eq_true] at h
  refine ⟨h.1.1, fun z => ?_, h.2⟩
  subst z
  exact absurd h.1.2 (by decide)
theorem ob_eq (hu : X.A.units + 64 < cLine) : OpR X (compareOp .Eq) (rB X.K eqD) := by
  rintro pins s σ H x y v u Q I rx ry ⟨M, d, e, k, hd, he, hg, hq⟩
  obtain ⟨hn, rfl⟩ := ite_ok hg
  obtain ⟨_, p1, p2⟩ := near_inv hn
  obtain ⟨as, r1⟩ := hd.reads I p1 rx
  obtain ⟨bs, r2⟩ := he.reads I p2 ry
  exact PySem.SeqAt.eq_plain r1 r2 p1 p2 (near_ok hn hu) ⟨.bl _, H, I, rfl, hq⟩
theorem ob_ne (hu : X.A.units + 64 < cLine) : OpR X (compareOp .NotEq) (rB X.K neD) := by
  rintro pins s σ H x y v u Q I rx ry ⟨M, d, e, k, hd, he, hg, hq⟩
  obtain ⟨hn, rfl⟩ := ite_ok hg
  obtain ⟨_, p1, p2⟩ := near_inv hn
  obtain ⟨as, r1⟩ := hd.reads I p1 rx
  obtain ⟨bs, r2⟩ := he.reads I p2 ry
  exact PySem.SeqAt.ne_plain r1 r2 p1 p2 (near_ok hn hu) ⟨.bl _, H, I, rfl, hq⟩
theorem ob_lt (hu : X.A.units + 64 < cLine) : OpR X (compareOp .Lt) (rB X.K ltD) := by
  rintro pins s σ H x y v u Q I rx ry ⟨M, d, e, k, hd, he, hg, hq⟩
  unfold ltD at hg
  split at hg
  · cases hg; cases hd; cases he
    exact op_lt pins s σ H _ _ v u Q I rx ry ⟨_, _, rfl, rfl, hq⟩
  · obtain ⟨hn, rfl⟩ := ite_ok hg
    obtain ⟨h1, h2, h3⟩ := ltOk_inv hn
    obtain ⟨_, p1, p2⟩ := near_inv h3
    obtain ⟨as, r1⟩ := hd.reads I p1 rx
    obtain ⟨bs, r2⟩ := he.reads I p2 ry
    exact PySem.W.lt_data r1 r2 h1 h2 (near_ok h3 hu) ⟨.bl _, H, I, rfl, hq⟩
theorem ob_le (hu : X.A.units + 64 < cLine) : OpR X (compareOp .LtE) (rB X.K leD) := by
  rintro pins s σ H x y v u Q I rx ry ⟨M, d, e, k, hd, he, hg, hq⟩
  unfold leD at hg
  split at hg
  · cases hg; cases hd; cases he
    exact op_le pins s σ H _ _ v u Q I rx ry ⟨_, _, rfl, rfl, hq⟩
  · obtain ⟨hn, rfl⟩ := ite_ok hg
    obtain ⟨h1, h2, h3⟩ := ltOk_inv hn
    obtain ⟨_, p1, p2⟩ := near_inv h3
    obtain ⟨as, r1⟩ := hd.reads I p1 rx
    obtain ⟨bs, r2⟩ := he.reads I p2 ry
    exact PySem.W.le_data r1 r2 h1 h2 (near_ok h3 hu) ⟨.bl _, H, I, rfl, hq⟩
theorem ob_gt (hu : X.A.units + 64 < cLine) : OpR X (compareOp .Gt) (rB X.K gtD) := by
  rintro pins s σ H x y v u Q I rx ry ⟨M, d, e, k, hd, he, hg, hq⟩
  unfold gtD at hg
  split at hg
  · cases hg; cases hd; cases he
    exact op_gt pins s σ H _ _ v u Q I rx ry ⟨_, _, rfl, rfl, hq⟩
  · obtain ⟨hn, rfl⟩ := ite_ok hg
    obtain ⟨h1, h2, h3⟩ := ltOk_inv hn
    obtain ⟨_, p1, p2⟩ := near_inv h3
    obtain ⟨as, r1⟩ := hd.reads I p1 rx
    obtain ⟨bs, r2⟩ := he.reads I p2 ry
    exact PySem.W.gt_data r1 r2 h1 h2 (near_ok h3 hu) ⟨.bl _, H, I, rfl, hq⟩
theorem ob_ge (hu : X.A.units + 64 < cLine) : OpR X (compareOp .GtE) (rB X.K geD) := by
  rintro pins s σ H x y v u Q I rx ry ⟨M, d, e, k, hd, he, hg, hq⟩
  unfold geD at hg
  split at hg
  · cases hg; cases hd; cases he
    exact op_ge pins s σ H _ _ v u Q I rx ry ⟨_, _, rfl, rfl, hq⟩
  · obtain ⟨hn, rfl⟩ := ite_ok hg
    obtain ⟨h1, h2, h3⟩ := ltOk_inv hn
    obtain ⟨_, p1, p2⟩ := near_inv h3
    obtain ⟨as, r1⟩ := hd.reads I p1 rx
    obtain ⟨bs, r2⟩ := he.reads I p2 ry
    exact PySem.W.ge_data r1 r2 h1 h2 (near_ok h3 hu) ⟨.bl _, H, I, rfl, hq⟩
/-- x is None -/
def isD (neg : Bool) : D → D → Res Bool := fun d e => match e with
  | .none => .ok (if neg then !isNone d else isNone d)
  | _ => stuck
theorem Rp.none_iff {K : PySem.W.Frag} {M : Addr → Prop} {H : Hp} {v : V} {d : D} (h : Rp K M H v d) : decide (v = .non) = isNone d := by
  cases h <;> rfl
theorem ob_is : OpR X (compareOp .Is) (rB X.K (isD false)) := by
  rintro pins s σ H x y v u Q I rx ry ⟨M, d, e, k, hd, he, hg, hq⟩
  unfold isD at hg
  split at hg
  · cases hg; cases he
    exact op_isN pins s σ H _ _ v u Q I rx ry ⟨rfl, by rw [hd.none_iff]; exact hq⟩
  · cases hg
theorem ob_isnot : OpR X (compareOp .IsNot) (rB X.K (isD true)) := by
  rintro pins s σ H x y v u Q I rx ry ⟨M, d, e, k, hd, he, hg, hq⟩
  unfold isD at hg
  split at hg
  · cases hg; cases he
    exact op_notN pins s σ H _ _ v u Q I rx ry ⟨rfl, by rw [hd.none_iff]; exact hq⟩
  · cases hg
/-- x in xs: a list or a tuple -/
def inD (neg : Bool) : D → D → Res Bool := fun d e => match e with
  | .list xs => if decide (min (PyData.depthAll xs) d.depth ≤ 60) && (PyData.plainAll xs && d.plain) then .ok (if neg then !xs.any (fun y => PyData.eqv y d) else xs.any (fun y => PyData.eqv y d)) else stuck
  | .tuple xs => if decide (min (PyData.depthAll xs) d.depth ≤ 60) && (PyData.plainAll xs && d.plain) then .ok (if neg then !xs.any (fun y => PyData.eqv y d) else xs.any (fun y => PyData.eqv y d)) else stuck
  | .dict kvs => dIn neg kvs d
  | _ => stuck
theorem ob_in (hu : X.A.units + 64 < cLine) : OpR X (compareOp .In) (rB X.K (inD false)) := by
  rintro pins s σ H x y v u Q I rx ry ⟨M, d, e, k, hd, he, hg, hq⟩
  unfold inD at hg
  split at hg
  · obtain ⟨hn, rfl⟩ := ite_ok hg
    rw [Bool.and_eq_true, Bool.and_eq_true] at hn
    obtain ⟨hn, hp, p1⟩ := hn
    obtain ⟨as, r1⟩ := hd.reads I p1 rx
    obtain ⟨bs, r2⟩ := he.reads I (by simpa [PyData.plain] using hp) ry
    have hn := of_decide_eq_true hn
    exact PySem.SeqAt.in_list_data r2 r1 hp p1 (by omega) ⟨.bl _, H, I, rfl, hq⟩
  · obtain ⟨hn, rfl⟩ := ite_ok hg
    rw [Bool.and_eq_true, Bool.and_eq_true] at hn
    obtain ⟨hn, hp, p1⟩ := hn
    obtain ⟨as, r1⟩ := hd.reads I p1 rx
    obtain ⟨bs, r2⟩ := he.reads I (by simpa [PyData.plain] using hp) ry
    have hn := of_decide_eq_true hn
    exact PySem.SeqAt.in_tuple_data r2 r1 hp p1 (by omega) ⟨.bl _, H, I, rfl, hq⟩
  · obtain ⟨a, hk, e1, _, e2, e3⟩ := he.dict_inv
    exact op_inD (neg := false) I rx ry hu hd ⟨a, hk, e1, e2, e3⟩ hg hq
  · cases hg
theorem ob_notIn (hu : X.A.units + 64 < cLine) : OpR X (compareOp .NotIn) (rB X.K (inD true)) := by
  rintro pins s σ H x y v u Q I rx ry ⟨M, d, e, k, hd, he, hg, hq⟩
  unfold inD at hg
  split at hg
  · obtain ⟨hn, rfl⟩ := ite_ok hg
    rw [Bool.and_eq_true, Bool.and_eq_true] at hn
    obtain ⟨hn, hp, p1⟩ := hn
    obtain ⟨as, r1⟩ := hd.reads I p1 rx
    obtain ⟨bs, r2⟩ := he.reads I (by simpa [PyData.plain] using hp) ry
    have hn := of_decide_eq_true hn
    exact PySem.SeqAt.notIn_list_data r2 r1 hp p1 (by omega) ⟨.bl _, H, I, rfl, hq⟩
  · obtain ⟨hn, rfl⟩ := ite_ok hg
    rw [Bool.and_eq_true, Bool.and_eq_true] at hn
    obtain ⟨hn, hp, p1⟩ := hn
    obtain ⟨as, r1⟩ := hd.reads I p1 rx
    obtain ⟨bs, r2⟩ := he.reads I (by simpa [PyData.plain] using hp) ry
    have hn := of_decide_eq_true hn
    exact PySem.SeqAt.notIn_tuple_data r2 r1 hp p1 (by omega) ⟨.bl _, H, I, rfl, hq⟩
  · obtain ⟨a, hk, e1, _, e2, e3⟩ := he.dict_inv
    exact op_inD (neg := true) I rx ry hu hd ⟨a, hk, e1, e2, e3⟩ hg hq
  · cases hg
end
end L2.DL

namespace L2.DL
open PySem PySem.Spec PyProof.Rows

/-! ## subscripts -/
section
variable {K : PySem.W.Frag} {M : Addr → Prop} {H : Hp}
theorem RpA.at {vs : List V} {ds : List D} {i : Int} {d : D} (r : RpA K M H vs ds) (h : atI ds i = some d) : ∃ v, atI vs i = some v ∧ Rp K M H v d := by
  unfold atI at h ⊢
  rw [r.len]
  cases e : ixN ds.length i with
  | none => rw [e] at h; cases h
  | some j =>
    rw [e] at h
    exact r.getD (i := j) h
/-- the items lo to hi -/
def cutD (xs : List D) (lo hi : Option Int) : List D := (xs.drop (HT.sIx xs.length 0 lo)).take (HT.sIx xs.length xs.length hi - HT.sIx xs.length 0 lo)
theorem RpA.cut {vs : List V} {ds : List D} (lo hi : Option Int) (r : RpA K M H vs ds) : RpA K M H (cutV vs lo hi) (cutD ds lo hi) := by
  unfold cutV cutD
  rw [r.len]
  exact (r.drop _).take _
end
def ixD : D → D → Res D
  | .list xs, .int i => match atI xs i with | some d => .ok d | none => stuck
  | .tuple xs, .int i => match atI xs i with | some d => .ok d | none => stuck
  | .str z, .int i => if z.length ≤ lim then (match atI z.cps.toList i with | some c => .ok (.str ⟨#[c]⟩) | none => stuck) else stuck
  | .dict kvs, k => dIx kvs k
  | _, _ => stuck
section
variable {X : Cx} {J : Jx} {a b e : Expr} {pos p2 : Pos} {fa fb f : EvF}
theorem ix_d (hu : X.A.units + 64 < cLine) : IxR X (rD X.K ixD) := by
  rintro value slice pins s σ H x y v u Q I rx ry ⟨M, d, e, z, hd, he, hm, hg, hq⟩ hs
  unfold ixD at hg
  split at hg
  · split at hg
    · rename_i xs i _ w ew
      cases hg
      cases he
      obtain ⟨p, vs, rfl, n, q, r⟩ := hd.list_inv
      obtain ⟨w, e1, r1⟩ := r.at ew
      exact ix_list value slice pins s σ H _ _ v u Q I rx ry ⟨p, vs, _, w, rfl, rfl, q, e1, hq _ _ (Same.refl _) r1⟩ hs
    · cases hg
  · split at hg
    · rename_i xs i _ w ew
      cases hg
      cases he
      obtain ⟨p, vs, rfl, n, q, r⟩ := hd.tup_inv
      obtain ⟨w, e1, r1⟩ := r.at ew
      exact ix_tup value slice pins s σ H _ _ v u Q I rx ry ⟨p, vs, _, w, rfl, rfl, q, e1, hq _ _ (Same.refl _) r1⟩ hs
    · cases hg
  · split at hg
    · rename_i hl
      split at hg
      · rename_i c ec
        cases hg
        cases he
        cases hd
        exact ix_str value slice pins s σ H _ _ v u Q I rx ry ⟨_, _, c, rfl, rfl, lim_le hl, ec, hq _ _ (Same.refl _) (.str _)⟩ hs
      · cases hg
    · cases hg
  · obtain ⟨a, hk, e1, _, e2, e3⟩ := hd.dict_inv
    exact ix_dict I rx ry hu ⟨a, hk, e1, e2, e3⟩ he hg (fun v r => hq _ _ (Same.refl _) r) hs
  · cases hg
/-- a[b] -/
theorem de_ix (hu : X.A.units + 64 < cLine) (ha : PE X a (tE X.K J fa)) (hb : PE X b (tE X.K J fb)) (hs : PlainIx b := by exact fun _ _ => rfl) : PE X (.Subscript a b pos) (tE X.K J (mOp ixD fa fb)) :=
  PE.by (pe_ix (ix_d hu) ha hb hs) fun _ _ _ h => rd_op h
/-- xs[b], xs a list of the def's own -/
def ownAt (i : Nat) (ρ : DEnv) : Res (List D) := match ρ[i]? with | some (some (Sl.ob _ (.lst xs))) => .ok xs | _ => stuck
theorem ownAt_inv {i : Nat} {ρ : DEnv} {xs : List D} (h : ownAt i ρ = .ok xs) : ∃ b, ρ[i]? = some (some (Sl.own b xs)) := by
  unfold ownAt at h
  split at h
  · rename_i b ys e
    cases h
    exact ⟨b, e⟩
  · cases h
def mIxOwn (i : Nat) (fb : EvF) : EvF := fun ρ => bnd (pur (ownAt i ρ)) fun _ => bnd (fb ρ) fun q => bnd (pur (ownAt i q.2)) fun xs => bnd (pur (ixD (.list xs) q.1)) fun z => .ok (z, q.2)
theorem de_ixOwn (i : Nat) {x : Str} {px : Pos} (hb : PE X b (tE X.K J fb)) (hN : X.N[i]? = some x := by rfl) (hv : Vis X.env.scope x := by first | exact Or.inl rfl | exact Or.inr (Or.inl rfl) | exact Or.inr (Or.inr rfl)) (hd : (x == ("__debug__" : Str)) = false := by decide)
    (hcd : (x == ("__classdict__" : Str)) = false := by decide) (hs : PlainIx b := by exact fun _ _ => rfl) : PE X (.Subscript (.Name x px) b pos) (tE X.K J (mIxOwn i fb)) := by
  refine PE.by (pe_ix ix_list (pv i hN hv hd hcd) hb hs) ?_
  rintro σ H Q ⟨G, ρ, R, h⟩
  obtain ⟨_, h0, h⟩ := h.pur
  obtain ⟨b0, e0⟩ := ownAt_inv h0
  obtain ⟨a0, u0, s0, _⟩ := R.own i _ _ e0
  refine ⟨_, s0, G, ρ, R, h.bnd fun p h y H2 R2 r2 => ?_⟩
  obtain ⟨xs, h2, h⟩ := h.pur
  obtain ⟨z, h3, h⟩ := h.pur
  obtain ⟨d2, ρ2⟩ := p
  obtain ⟨b1, e1⟩ := ownAt_inv h2
  obtain ⟨a1, u1, s1, hH, hr, _⟩ := R2.own i _ _ e1
  rw [s0] at s1
  cases s1
  cases hr with
  | lst hr =>
    unfold ixD at h3
    cases d2 with
    | int j =>
      dsimp only at h3
      split at h3
      · rename_i w ew
        cases h3
        obtain ⟨v, q1, q2⟩ := hr.at ew
        exact ⟨a0, _, j, v, rfl, r2.int_inv, SqL.of hH, q1, fun _ => h _ _ R2 q2⟩
      · cases h3
    | _ => cases h3

/-! ## slices -/
abbrev EvO := DEnv → Res (Option Int × DEnv)
def tOo (K : PySem.W.Frag) (J : Jx) (f : EvO) : TO := fun σ H Q => ∃ G ρ, Rel K J G ρ σ H ∧ Out (wE K J G σ) (f ρ) fun p => ∀ H', Rel K J G p.2 σ H' → Q p.1 H'
def mNo : EvO := fun ρ => .ok (none, ρ)
def mSo (f : EvF) : EvO := fun ρ => bnd (f ρ) fun p => match p.1 with | .int i => .ok (some i, p.2) | _ => stuck
theorem do_none : PO X none (tOo X.K J mNo) := by
  refine ⟨fun pins s σ H Q I hq => po_none.run pins s σ H Q I ?_⟩
  obtain ⟨G, ρ, R, h⟩ := hq
  exact h _ R
theorem PO.imp {e : Option Expr} {t t' : TO} (h : PO X e t) (hh : ∀ σ H Q, t' σ H Q → t σ H Q) : PO X e t' := ⟨fun pins s σ H Q I hq => h.run pins s σ H Q I (hh σ H Q hq)⟩
theorem do_some (h : PE X e (tE X.K J f)) : PO X (some e) (tOo X.K J (mSo f)) := by
  refine PO.imp (po_some h) ?_
  rintro σ H Q ⟨G, ρ, R, h⟩
  refine ⟨G, ρ, R, h.bnd fun p h v H' R' r => ?_⟩
  obtain ⟨d, ρ1⟩ := p
  cases d with
  | int i => exact ⟨i, r.int_inv, h _ R'⟩
  | _ => exact h.elim
def slD (d : D) (lo hi : Option Int) : Res D := match d with
  | .list xs => .ok (.list (cutD xs lo hi))
  | .tuple xs => .ok (.tuple (cutD xs lo hi))
  | _ => stuck
/-- a slice of data -/
def rSlD (K : PySem.W.Frag) : V → Option Int → Option Int → Hp → VK → Prop := fun x lo hi H Q => ∃ (M : Addr → Prop) (d z : D), Rp K M H x d ∧ (∀ a, M a → H a ≠ none) ∧ slD d lo hi = .ok z ∧ ∀ v H', Same H H' → Rp K M H' v z → Q v H'
theorem cut_whole (xs : List D) (lo hi : Option Int) (h : HT.sIx xs.length 0 lo = 0 ∧ HT.sIx xs.length xs.length hi = xs.length) : cutD xs lo hi = xs := by
  unfold cutD
  rw [h.1, h.2, List.drop_zero, Nat.sub_zero, List.take_length]
theorem sl_d : SlR X (rSlD X.K) := by
  rintro pins s σ H x v vl vu lo hi sl Q I rx hs pl pu ⟨M, d, z, hd, hm, hg, hq⟩
  cases d with
  | list xs =>
    cases hg
    obtain ⟨p, vs, rfl, n, q, r⟩ := hd.list_inv
    refine sl_list pins s σ H _ v vl vu lo hi sl Q I rx hs pl pu ⟨p, vs, rfl, q, fun p hp => ?_⟩
    exact hq _ _ (Same.upd hp) (.lst (nM hm hp) (SqL.of upd_same) ((r.cut lo hi).same (Same.upd hp)))
  | tuple xs =>
    cases hg
    obtain ⟨p, vs, rfl, n, q, r⟩ := hd.tup_inv
    refine sl_tupA pins s σ H _ v vl vu lo hi sl Q I rx hs pl pu ⟨p, vs, rfl, q, fun hw => ?_, fun _ p hp => ?_⟩
    · rw [cut_whole xs lo hi (by rw [← r.len]; exact hw)] at hq
      exact hq _ _ (Same.refl _) (.tup n q r)
    · exact hq _ _ (Same.upd hp) (.tup (nM hm hp) (SqT.of upd_same) ((r.cut lo hi).same (Same.upd hp)))
  | _ => cases hg
def mSl (f : EvF) (fl fh : EvO) : EvF := fun ρ => bnd (f ρ) fun p => bnd (fl p.2) fun q => bnd (fh q.2) fun r => bnd (pur (slD p.1 q.1 r.1)) fun z => .ok (z, r.2)
variable {lo hi : Option Expr} {fl fh : EvO}
theorem de_slice (he : PE X e (tE X.K J f)) (hl : PO X lo (tOo X.K J fl)) (hh : PO X hi (tOo X.K J fh)) : PE X (.Subscript e (.Slice lo hi none p2) pos) (tE X.K J (mSl f fl fh)) := by
  refine PE.by (pe_slice sl_d he hl hh) ?_
  rintro σ H Q ⟨G, ρ, R, h⟩
  refine ⟨G, ρ, R, h.bnd fun p h x H1 R1 r1 => ⟨G.hold x p.1, p.2, R1.hold r1, h.hold.bnd fun q h H2 R2 => ⟨G.hold x p.1, q.2, R2, h.bnd fun r h H3 R3 => ?_⟩⟩⟩
  obtain ⟨R3, r3⟩ := R3.unhold
  obtain ⟨z, h4, h⟩ := h.pur
  exact ⟨MM G r.2 σ, p.1, z, r3, R3.domM, h4, fun v H' s r' kf => h v H' (R3.same kf s) r'⟩
/-- a new list by a slice of a list -/
def mSlL (f : EvF) (fl fh : EvO) : EvA := fun ρ => bnd (f ρ) fun p => bnd (fl p.2) fun q => bnd (fh q.2) fun r => match p.1 with | .list xs => .ok (cutD xs q.1 r.1, r.2) | _ => stuck
theorem Rel.newL {K : PySem.W.Frag} {G : Gh} {ρ : DEnv} {σ : St} {H : Hp} {p : Addr} {vs : List V} {xs : List D} {Q : VK} (R : Rel K J G ρ σ H) (hp : H p = none) (kf : KF K (upd H p (.lst vs))) (r : RpA K (MM G ρ σ) H vs xs)
    (hq : ∀ a vs H', Rel K J (G.add a) ρ σ H' → H' a = some (.lst vs) → RpA K (MM (G.add a) ρ σ) H' vs xs → ¬ MM G ρ σ a → (∀ o, ¬ G.fx a o) → Q (.ref a) H') : Q (.ref p) (upd H p (.lst vs)) := by
  exact hq p vs _ (R.fresh hp kf) upd_same (((r.off (kf.free upd_same) hp).weak fun b z => mm_add.mp z).same (Same.upd hp)) (R.nown hp) (R.nfx hp)
theorem dl_slice (he : PE X e (tE X.K J f)) (hl : PO X lo (tOo X.K J fl)) (hh : PO X hi (tOo X.K J fh)) : PE X (.Subscript e (.Slice lo hi none p2) pos) (tL X.K J (mSlL f fl fh)) := by
  refine PE.by (pe_slice sl_list he hl hh) ?_
  rintro σ H Q ⟨G, ρ, R, h⟩
  refine ⟨G, ρ, R, h.bnd fun p h x H1 R1 r1 => ⟨G.hold x p.1, p.2, R1.hold r1, h.hold.bnd fun q h H2 R2 => ⟨G.hold x p.1, q.2, R2, h.bnd fun r h H3 R3 => ?_⟩⟩⟩
  obtain ⟨R4, r4⟩ := R3.unhold
  obtain ⟨d1, ρ1⟩ := p
  cases d1 with
  | list xs =>
    obtain ⟨a, vs, e, n, q', r'⟩ := r4.list_inv
    exact ⟨a, vs, e, q', fun p' hp kf => R4.newL hp kf (r'.cut q.1 r.1) h⟩
  | _ => exact h.elim

/-! ## calls of built-ins -/
/-- on a list or a tuple that is read -/
def rSq (K : PySem.W.Frag) (g : Bool × List D → Res D) : List V → Hp → VK → Prop := fun vs H Q => ∃ (M : Addr → Prop) (t : Bool) (a : Addr) (ws : List V) (xs : List D) (z : D), vs = [.ref a] ∧ IsSq K H t a ws ∧ RpA K M H ws xs ∧
  (∀ a, M a → H a ≠ none) ∧ (t = true → ¬ M a) ∧ g (t, xs) = .ok z ∧ ∀ v H', Same H H' → Rp K M H' v z → Q v H'
/-- .. that gives a new list -/
def rSqL (K : PySem.W.Frag) (g : Bool × List D → Res (List D)) : List V → Hp → VK → Prop := fun vs H Q => ∃ (M : Addr → Prop) (t : Bool) (a : Addr) (ws : List V) (xs : List D) (zs : List D), vs = [.ref a] ∧ IsSq K H t a ws ∧ RpA K M H ws xs ∧
  g (t, xs) = .ok zs ∧ ∀ p us, H p = none → RpA K M H us zs → Q (.ref p) (upd H p (.lst us))
/-- on data -/
def rDs (K : PySem.W.Frag) (g : List D → Res D) : List V → Hp → VK → Prop := fun vs H Q => ∃ (M : Addr → Prop) (ds : List D) (z : D), RpA K M H vs ds ∧ (∀ a, M a → H a ≠ none) ∧ g ds = .ok z ∧ ∀ v H', Same H H' → Rp K M H' v z → Q v H'
def mV (g : Bool × List D → Res D) (f : EvV) : EvF := fun ρ => bnd (f ρ) fun p => bnd (pur (g p.1)) fun z => .ok (z, p.2)
def mVL (g : Bool × List D → Res (List D)) (f : EvV) : EvA := fun ρ => bnd (f ρ) fun p => bnd (pur (g p.1)) fun z => .ok (z, p.2)
def mDs (g : List D → Res D) (fs : EvA) : EvF := fun ρ => bnd (fs ρ) fun p => bnd (pur (g p.1)) fun z => .ok (z, p.2)
variable {x : Str} {p : Pos} {es : List Expr} {fs : EvA} {fv : EvV} {g : Bool × List D → Res D} {gl : Bool × List D → Res (List D)} {gd : List D → Res D} {bid T : String}
theorem rd_v {K : PySem.W.Frag} {σ : St} {H : Hp} {Q : VK} (h : tE K J (mV g fv) σ H Q) : tCB (rSq K g) (tCons (tW K J fv) tNil) σ H fun v H' => KF K H' → Q v H' := by
  obtain ⟨G, ρ, R, h⟩ := h
  exact ⟨G, ρ, R, h.bnd fun p h a vs H' R' hs hr hn => by
    obtain ⟨z, h2, h⟩ := h.pur
    exact ⟨MM G p.2 σ, p.1.1, a, vs, p.1.2, z, rfl, hs, hr, R'.domM, hn, h2, fun v H'' s r kf => h v H'' (R'.same kf s) r⟩⟩
theorem rd_vl {K : PySem.W.Frag} {σ : St} {H : Hp} {Q : VK} (h : tL K J (mVL gl fv) σ H Q) : tCB (rSqL K gl) (tCons (tW K J fv) tNil) σ H fun v H' => KF K H' → Q v H' := by
  obtain ⟨G, ρ, R, h⟩ := h
  exact ⟨G, ρ, R, h.bnd fun p h a vs H' R' hs hr hn => by
    obtain ⟨z, h2, h⟩ := h.pur
    exact ⟨MM G p.2 σ, p.1.1, a, vs, p.1.2, z, rfl, hs, hr, h2, fun p' us hp r kf => R'.newL hp kf r h⟩⟩
theorem rd_ds {K : PySem.W.Frag} {σ : St} {H : Hp} {Q : VK} (h : tE K J (mDs gd fs) σ H Q) : tCB (rDs K gd) (tA K J fs) σ H fun v H' => KF K H' → Q v H' := by
  obtain ⟨G, ρ, R, h⟩ := h
  exact ⟨G, ρ, R, h.bnd fun p h vs H' R' hr => by
    obtain ⟨z, h2, h⟩ := h.pur
    exact ⟨MM G p.2 σ, p.1, z, hr, R'.domM, h2, fun v H'' s r kf => h v H'' (R'.same kf s) r⟩⟩
theorem de_callBv (hc : CallR X (.builtin bid) (rSq X.K g)) (hv' : bootBuiltins x = some (.builtin bid)) (hm : X.mg x = none) (hv : PE X e (tW X.K J fv)) (hg : Gl X x := by rfl) (hn : x ≠ "__name__" := by decide) (hdb : (x == ("__debug__" : Str)) = false := by decide)
    (he : starEach (e :: []) X.env = (false, eval e X.env) :: starEach [] X.env := by rfl) (hpl : (backTo pos (starEach [] X.env)).any (·.1) = false := by rfl) : PE X (.Call (.Name x p) [e] [] pos) (tE X.K J (mV g fv)) :=
  PE.by (pe_callB hc hg hm hv' (pa_cons hv pa_nil he) hn hdb he hpl) fun _ _ _ h => rd_v h
theorem de_callTv (hc : CallR X (.type T) (rSq X.K g)) (hv' : bootBuiltins x = some (.type T)) (hm : X.mg x = none) (hv : PE X e (tW X.K J fv)) (hg : Gl X x := by rfl) (hn : x ≠ "__name__" := by decide) (hdb : (x == ("__debug__" : Str)) = false := by decide)
    (he : starEach (e :: []) X.env = (false, eval e X.env) :: starEach [] X.env := by rfl) (hpl : (backTo pos (starEach [] X.env)).any (·.1) = false := by rfl) : PE X (.Call (.Name x p) [e] [] pos) (tE X.K J (mV g fv)) :=
  PE.by (pe_callTy hc hg hm hv' (pa_cons hv pa_nil he) hn hdb he hpl) fun _ _ _ h => rd_v h
theorem dl_callBv (hc : CallR X (.builtin bid) (rSqL X.K gl)) (hv' : bootBuiltins x = some (.builtin bid)) (hm : X.mg x = none) (hv : PE X e (tW X.K J fv)) (hg : Gl X x := by rfl) (hn : x ≠ "__name__" := by decide) (hdb : (x == ("__debug__" : Str)) = false := by decide)
    (he : starEach (e :: []) X.env = (false, eval e X.env) :: starEach [] X.env := by rfl) (hpl : (backTo pos (starEach [] X.env)).any (·.1) = false := by rfl) : PE X (.Call (.Name x p) [e] [] pos) (tL X.K J (mVL gl fv)) :=
  PE.by (pe_callB hc hg hm hv' (pa_cons hv pa_nil he) hn hdb he hpl) fun _ _ _ h => rd_vl h
theorem dl_callTv (hc : CallR X (.type T) (rSqL X.K gl)) (hv' : bootBuiltins x = some (.type T)) (hm : X.mg x = none) (hv : PE X e (tW X.K J fv)) (hg : Gl X x := by rfl) (hn : x ≠ "__name__" := by decide) (hdb : (x == ("__debug__" : Str)) = false := by decide)
    (he : starEach (e :: []) X.env = (false, eval e X.env) :: starEach [] X.env := by rfl) (hpl : (backTo pos (starEach [] X.env)).any (·.1) = false := by rfl) : PE X (.Call (.Name x p) [e] [] pos) (tL X.K J (mVL gl fv)) :=
  PE.by (pe_callTy hc hg hm hv' (pa_cons hv pa_nil he) hn hdb he hpl) fun _ _ _ h => rd_vl h
theorem de_callBd (hc : CallR X (.builtin bid) (rDs X.K gd)) (hv' : bootBuiltins x = some (.builtin bid)) (hm : X.mg x = none) (hv : PA X (e :: es) (tA X.K J fs)) (hg : Gl X x := by rfl) (hn : x ≠ "__name__" := by decide) (hdb : (x == ("__debug__" : Str)) = false := by decide)
    (he : starEach (e :: es) X.env = (false, eval e X.env) :: starEach es X.env := by rfl) (hpl : (backTo pos (starEach es X.env)).any (·.1) = false := by rfl) : PE X (.Call (.Name x p) (e :: es) [] pos) (tE X.K J (mDs gd fs)) :=
  PE.by (pe_callB hc hg hm hv' hv hn hdb he hpl) fun _ _ _ h => rd_ds h
theorem de_callTd (hc : CallR X (.type T) (rDs X.K gd)) (hv' : bootBuiltins x = some (.type T)) (hm : X.mg x = none) (hv : PA X (e :: es) (tA X.K J fs)) (hg : Gl X x := by rfl) (hn : x ≠ "__name__" := by decide) (hdb : (x == ("__debug__" : Str)) = false := by decide)
    (he : starEach (e :: es) X.env = (false, eval e X.env) :: starEach es X.env := by rfl) (hpl : (backTo pos (starEach es X.env)).any (·.1) = false := by rfl) : PE X (.Call (.Name x p) (e :: es) [] pos) (tE X.K J (mDs gd fs)) :=
  PE.by (pe_callTy hc hg hm hv' hv hn hdb he hpl) fun _ _ _ h => rd_ds h

theorem IsSq.or {K : PySem.W.Frag} {H : Hp} {t : Bool} {a : Addr} {vs : List V} (h : IsSq K H t a vs) : SqL K H a vs ∨ SqT K H a vs := by
  unfold IsSq at h
  cases t with
  | true => rw [if_pos rfl] at h; exact .inr h
  | false => rw [if_neg Bool.false_ne_true] at h; exact .inl h
def lenS : Bool × List D → Res D := fun p => .ok (.int p.2.length)
theorem cd_len : CallR X (.builtin "len") (rSq X.K lenS) := by
  rintro pins s σ H vs us Q I r ⟨M, t, a, ws, xs, z, rfl, hs, hr, hm, hn, hg, hq⟩
  cases hg
  exact call_len_seq pins s σ H _ us Q I r ⟨a, ws, rfl, hs.or, by rw [hr.len]; exact hq _ _ (Same.refl _) (.int _)⟩
def lenStrD : List D → Res D
  | [.str z] => if z.length ≤ lim then .ok (.int z.length) else stuck
  | _ => stuck
theorem cd_lenStr : CallR X (.builtin "len") (rDs X.K lenStrD) := by
  rintro pins s σ H vs us Q I r ⟨M, ds, z, hr, hm, hg, hq⟩
  unfold lenStrD at hg
  split at hg
  · obtain ⟨hl, rfl⟩ := ite_ok hg
    cases hr with
    | cons h1 h2 =>
      cases h2; cases h1
      exact call_len_str pins s σ H _ us Q I r ⟨_, rfl, lim_le hl, hq _ _ (Same.refl _) (.int _)⟩
  · cases hg
def absD : List D → Res D
  | [.int i] => .ok (.int (if i < 0 then -i else i))
  | _ => stuck
theorem cd_abs : CallR X (.builtin "abs") (rDs X.K absD) := by
  rintro pins s σ H vs us Q I r ⟨M, ds, z, hr, hm, hg, hq⟩
  unfold absD at hg
  split at hg
  · cases hg
    cases hr with
    | cons h1 h2 =>
      cases h2; cases h1
      exact call_abs pins s σ H _ us Q I r ⟨_, rfl, hq _ _ (Same.refl _) (.int _)⟩
  · cases hg
def intD : List D → Res D
  | [.int i] => .ok (.int i)
  | [.bool b] => .ok (.int (if b then 1 else 0))
  | _ => stuck
theorem cd_int : CallR X (.type "int") (rDs X.K intD) := by
  rintro pins s σ H vs us Q I r ⟨M, ds, z, hr, hm, hg, hq⟩
  unfold intD at hg
  split at hg
  · cases hg
    cases hr with
    | cons h1 h2 =>
      cases h2; cases h1
      exact call_int1 pins s σ H _ us Q I r (.inl ⟨_, rfl, hq _ _ (Same.refl _) (.int _)⟩)
  · cases hg
    cases hr with
    | cons h1 h2 =>
      cases h2; cases h1
      exact call_int1 pins s σ H _ us Q I r (.inr ⟨_, rfl, hq _ _ (Same.refl _) (.int _)⟩)
  · cases hg
def max2D : List D → Res D
  | [.int i, .int j] => .ok (.int (if j > i then j else i))
  | _ => stuck
def min2D : List D → Res D
  | [.int i, .int j] => .ok (.int (if j < i then j else i))
  | _ => stuck
theorem cd_max2 (hc : X.calm = true) : CallR X (.builtin "max") (rDs X.K max2D) := by
  rintro pins s σ H vs us Q I r ⟨M, ds, z, hr, hm, hg, hq⟩
  unfold max2D at hg
  split at hg
  · cases hg
    cases hr with
    | cons h1 h2 =>
      cases h2 with
      | cons h2 h3 =>
        cases h3; cases h1; cases h2
        exact call_max2 hc pins s σ H _ us Q I r ⟨_, _, rfl, hq _ _ (Same.refl _) (.int _)⟩
  · cases hg
theorem cd_min2 (hc : X.calm = true) : CallR X (.builtin "min") (rDs X.K min2D) := by
  rintro pins s σ H vs us Q I r ⟨M, ds, z, hr, hm, hg, hq⟩
  unfold min2D at hg
  split at hg
  · cases hg
    cases hr with
    | cons h1 h2 =>
      cases h2 with
      | cons h2 h3 =>
        cases h3; cases h1; cases h2
        exact call_min2 hc pins s σ H _ us Q I r ⟨_, _, rfl, hq _ _ (Same.refl _) (.int _)⟩
  · cases hg
/-- tuple(xs) -/
def tupS : Bool × List D → Res D := fun p => .ok (.tuple p.2)
theorem cd_tuple : CallR X (.type "tuple") (rSq X.K tupS) := by
  rintro pins s σ H vs us Q I r ⟨M, t, a, ws, xs, z, rfl, hs, hr, hm, hn, hg, hq⟩
  cases hg
  cases t with
  | false =>
    refine call_tuple_of pins s σ H _ us Q I r ⟨a, ws, rfl, .inl ⟨hs, fun l hl => ?_⟩⟩
    exact hq _ _ (Same.upd hl) (.tup (nM hm hl) (SqT.of upd_same) (hr.same (Same.upd hl)))
  | true =>
    exact call_tuple_of pins s σ H _ us Q I r ⟨a, ws, rfl, .inr ⟨hs, hq _ _ (Same.refl _) (.tup (hn rfl) hs hr)⟩⟩
/-- list(xs) -/
def lstS : Bool × List D → Res (List D) := fun p => .ok p.2
theorem cd_list : CallR X (.type "list") (rSqL X.K lstS) := by
  rintro pins s σ H vs us Q I r ⟨M, t, a, ws, xs, z, rfl, hs, hr, hg, hq⟩
  cases hg
  exact call_list_of pins s σ H _ us Q I r ⟨a, ws, rfl, hs.or, fun l hl => hq l ws hl hr⟩
/-- the numbers, the truths of a list -/
def intsOf : List D → Option (List Int)
  | [] => some []
  | .int i :: r => (intsOf r).map (i :: ·)
  | _ :: _ => none
def boolsOf : List D → Option (List Bool)
  | [] => some []
  | .bool i :: r => (boolsOf r).map (i :: ·)
  | _ :: _ => none
theorem intsOf_map : ∀ ns : List Int, intsOf (ns.map .int) = some ns
  | [] => rfl
  | n :: r => by rw [List.map_cons, intsOf, intsOf_map r]; rfl
theorem boolsOf_map : ∀ ns : List Bool, boolsOf (ns.map .bool) = some ns
  | [] => rfl
  | n :: r => by rw [List.map_cons, boolsOf, boolsOf_map r]; rfl
theorem intsOf_eq : ∀ {ds : List D} {ns : List Int}, intsOf ds = some ns → ds = ns.map .int
  | [], ns, h => by cases h; rfl
  | .int i :: r, ns, h => by
    rw [intsOf] at h
    cases e : intsOf r with
    | none => rw [e] at h; cases h
    | some l => rw [e] at h; cases h; rw [intsOf_eq e]; rfl
  | .none :: _, _, h => by cases h
  | .bool _ :: _, _, h => by cases h
  | .str _ :: _, _, h => by cases h
  | .list _ :: _, _, h => by cases h
  | .tuple _ :: _, _, h => by cases h
  | .dict _ :: _, _, h => by cases h
theorem boolsOf_eq : ∀ {ds : List D} {ns : List Bool}, boolsOf ds = some ns → ds = ns.map .bool
  | [], ns, h => by cases h; rfl
  | .bool i :: r, ns, h => by
    rw [boolsOf] at h
    cases e : boolsOf r with
    | none => rw [e] at h; cases h
    | some l => rw [e] at h; cases h; rw [boolsOf_eq e]; rfl
  | .none :: _, _, h => by cases h
  | .int _ :: _, _, h => by cases h
  | .str _ :: _, _, h => by cases h
  | .list _ :: _, _, h => by cases h
  | .tuple _ :: _, _, h => by cases h
  | .dict _ :: _, _, h => by cases h
theorem rpA_ints {K : PySem.W.Frag} {M : Addr → Prop} {H : Hp} : ∀ {vs : List V} (ns : List Int), RpA K M H vs (ns.map .int) → vs = ns.map V.int
  | _, [], h => by cases h; rfl
  | _, n :: r, h => by
    cases h with
    | cons h1 h2 => rw [h1.int_inv, rpA_ints r h2]; rfl
theorem rpA_bools {K : PySem.W.Frag} {M : Addr → Prop} {H : Hp} : ∀ {vs : List V} (ns : List Bool), RpA K M H vs (ns.map .bool) → vs = ns.map V.bl
  | _, [], h => by cases h; rfl
  | _, n :: r, h => by
    cases h with
    | cons h1 h2 => rw [h1.bool_inv, rpA_bools r h2]; rfl
section
variable {prog : Program} {w : World} {A : Around} {E : Value → Shared → Prop} {s : Shared} {l : Addr}
/-- sum(t), t a tuple of whole numbers -/
theorem sum_tup {its : List Value} {ns : List Int} {Q : Value → Shared → Prop} (hh : A.handled = none) (hl : s.heap.IsTuple l its.toArray) (hi : IntsAre its ns)
    (h : ∀ h' tk t', (∀ b o, s.heap.get? b = some o → h'.get? b = some o) → Q (.int ns.sum t') { s with heap := h', toks := tk }) : wpAny (model prog w) A (call (.builtin "sum") [.ref l]) Q E s := by
  obtain ⟨xs, e⟩ := hi.allInts.items
  have hn : numsOf (intItems xs).toList = ns := by rw [← e]; exact hi.numsOf
  rw [nums_intItems] at hn
  rw [e] at hl
  have hlt : l < s.heap.objs.size := by obtain ⟨_, z, _⟩ := hl; exact Heap.lt_size z
  refine call_sum_walkG (wpAny_pyIter_tuple hl ?_)
  refine ⟨_, [_, l], [_], _, _, _, numAt xs, rfl, Walks.tuple (A := A.in1) hh _ l (Nat.ne_of_lt hlt) (intItems xs), ⟨⟨_, Heap.get?_push_size _ rfl, rfl, rfl⟩, hl.push _⟩, (fun b hb => ?_), (fun _ _ => intItems_at), fun h' tk t' hk => ?_⟩
  · show b < (s.heap.push _).objs.size
    rw [Heap.size_push]
    rcases List.mem_cons.mp hb with z | hb
    · rw [z]; exact Nat.lt_succ_self _
    · rw [List.mem_singleton.mp hb]; exact Nat.lt_succ_of_lt hlt
  · have := h h' tk t' fun b o e => hk b o (by simpa using Nat.ne_of_lt (Heap.lt_size e)) (Heap.get?_push_of_some _ e)
    have e2 : preSum (numAt xs) xs.size = ns.sum := by rw [preSum_eq, List.take_of_length_le (by simp), hn]
    rw [← e2] at this
    simpa [intItems] using this
end
def sumS : Bool × List D → Res D := fun p => match intsOf p.2 with | some ns => .ok (.int ns.sum) | none => stuck
def allS : Bool × List D → Res D := fun p => if p.1 = true then stuck else match boolsOf p.2 with | some bs => .ok (.bool (bs.all id)) | none => stuck
def anyS : Bool × List D → Res D := fun p => if p.1 = true then stuck else match boolsOf p.2 with | some bs => .ok (.bool (bs.any id)) | none => stuck
theorem cd_sum (hc : X.calm = true) : CallR X (.builtin "sum") (rSq X.K sumS) := by
  rintro pins s σ H vs us Q I r ⟨M, t, a, ws, xs, z, rfl, hs, hr, hm, hn, hg, hq⟩
  unfold sumS at hg
  split at hg
  · rename_i ns e
    cases hg
    have e' := intsOf_eq e
    dsimp only at e'
    subst e'
    have := rpA_ints ns hr
    subst this
    cases t with
    | false => exact cr_sum hc pins s σ H _ us Q I r ⟨a, ns, rfl, hs, hq _ _ (Same.refl _) (.int _)⟩
    | true =>
      obtain ⟨its, rv, hl, _⟩ := I.tuple (show SqT X.K H a (ns.map V.int) from hs)
      rw [Vals.ref1 r]
      exact sum_tup (I.ok.hd hc) (by obtain ⟨o, g1, g2, n, g3⟩ := hl; exact ⟨o, g1, g2, n, g3⟩) rv.ints fun h' tk t' hk => ⟨.int _, H, I.kept hk, ⟨_, rfl⟩, hq _ _ (Same.refl _) (.int _)⟩
  · cases hg
theorem cd_all (hc : X.calm = true) : CallR X (.builtin "all") (rSq X.K allS) := by
  rintro pins s σ H vs us Q I r ⟨M, t, a, ws, xs, z, rfl, hs, hr, hm, hn, hg, hq⟩
  unfold allS at hg
  cases t with
  | true => cases hg
  | false =>
    rw [if_neg Bool.false_ne_true] at hg
    split at hg
    · rename_i ns e
      cases hg
      have e' := boolsOf_eq e
      dsimp only at e'
      subst e'
      have := rpA_bools ns hr
      subst this
      exact cr_all hc pins s σ H _ us Q I r ⟨a, ns, rfl, hs, hq _ _ (Same.refl _) (.bl _)⟩
    · cases hg
theorem cd_any (hc : X.calm = true) : CallR X (.builtin "any") (rSq X.K anyS) := by
  rintro pins s σ H vs us Q I r ⟨M, t, a, ws, xs, z, rfl, hs, hr, hm, hn, hg, hq⟩
  unfold anyS at hg
  cases t with
  | true => cases hg
  | false =>
    rw [if_neg Bool.false_ne_true] at hg
    split at hg
    · rename_i ns e
      cases hg
      have e' := boolsOf_eq e
      dsimp only at e'
      subst e'
      have := rpA_bools ns hr
      subst this
      exact cr_any hc pins s σ H _ us Q I r ⟨a, ns, rfl, hs, hq _ _ (Same.refl _) (.bl _)⟩
    · cases hg
end

/-! ## isinstance -/
inductive Ty where
  | int | bool | str | tuple | list | dict
def Ty.nm : Ty → String
  | .int => "int" | .bool => "bool" | .str => "str" | .tuple => "tuple" | .list => "list" | .dict => "dict"
def tyD : D → String
  | .none => "NoneType" | .bool _ => "bool" | .int _ => "int" | .str _ => "str" | .list _ => "list" | .tuple _ => "tuple" | .dict _ => "dict"
def isT : Ty → D → Bool
  | .int, .int _ => true
  | .int, .bool _ => true
  | .bool, .bool _ => true
  | .str, .str _ => true
  | .tuple, .tuple _ => true
  | .list, .list _ => true
  | .dict, .dict _ => true
  | _, _ => false
section
theorem kb_none (T : Ty) : kitB "NoneType" T.nm = some false := by cases T <;> decide +kernel
theorem kb_bool (T : Ty) : kitB "bool" T.nm = some (match T with | .int => true | .bool => true | _ => false) := by cases T <;> decide +kernel
theorem kb_int (T : Ty) : kitB "int" T.nm = some (match T with | .int => true | _ => false) := by cases T <;> decide +kernel
theorem kb_str (T : Ty) : kitB "str" T.nm = some (match T with | .str => true | _ => false) := by cases T <;> decide +kernel
theorem kb_list (T : Ty) : kitB "list" T.nm = some (match T with | .list => true | _ => false) := by cases T <;> decide +kernel
theorem kb_tuple (T : Ty) : kitB "tuple" T.nm = some (match T with | .tuple => true | _ => false) := by cases T <;> decide +kernel
theorem kb_dict (T : Ty) : kitB "dict" T.nm = some (match T with | .dict => true | _ => false) := by cases T <;> decide +kernel
theorem kit_d {K : PySem.W.Frag} (T : Ty) (d : D) : PySem.W.kitOne K (.type (tyD d)) (.type T.nm) = some (isT T d) := by
  cases d with
  | none => have q := kb_none T; cases T <;> exact kit_ty q
  | bool b => have q := kb_bool T; cases T <;> exact kit_ty q
  | int b => have q := kb_int T; cases T <;> exact kit_ty q
  | str b => have q := kb_str T; cases T <;> exact kit_ty q
  | list b => have q := kb_list T; cases T <;> exact kit_ty q
  | tuple b => have q := kb_tuple T; cases T <;> exact kit_ty q
  | dict b => have q := kb_dict T; cases T <;> exact kit_ty q
theorem kitAny_d {K : PySem.W.Frag} (d : D) : ∀ Ts : List Ty, PySem.W.kitAny K (.type (tyD d)) (Ts.map fun T => Value.type T.nm) = some (Ts.any fun T => isT T d)
  | [] => rfl
  | T :: Ts => by
    rw [List.map_cons, List.any_cons]
    refine kitAny_cons (kit_d T d) (fun h => ?_) (fun h => ?_)
    · rw [h, kitAny_d d Ts]; rfl
    · rw [h]; rfl
theorem tyX_of {K : PySem.W.Frag} {M : Addr → Prop} {H : Hp} {v : V} {d : D} (h : Rp K M H v d) : TyX K H v (.type (tyD d)) := by
  cases h with
  | non => exact .base .non
  | bl b => exact .base (.bl b)
  | int i => exact .base (.int i)
  | str x => exact .base (.str x)
  | lst n q r =>
    rcases q with (q | ⟨o, q⟩) | ⟨o, its, n', e, c, _⟩
    · exact .base (.lst q)
    · exact .base (.frz q)
    · exact .kList e c
  | tup n q r =>
    rcases q with (q | ⟨o, q⟩) | ⟨o, its, n', e, c, _⟩
    · exact .base (.tup q)
    · exact .fTuple q
    · exact .kTuple e c
  | dicK n q r => exact .base (.dK q)
variable {X : Cx} {J : Jx} {e : Expr} {f : EvF} {p p2 pos : Pos}
def mIsi (T : Ty) (f : EvF) : EvF := fun ρ => bnd (f ρ) fun q => .ok (.bool (isT T q.1), q.2)
def mIsiT (Ts : List Ty) (f : EvF) : EvF := fun ρ => bnd (f ρ) fun q => .ok (.bool (Ts.any fun T => isT T q.1), q.2)
theorem de_isi (T : Ty) {y : Str} (hi : X.mg "isinstance" = none) (hT : X.mg y = none) (he : PE X e (tE X.K J f)) (hb : bootBuiltins y = some (.type T.nm) := by decide +kernel) (hg : Gl X "isinstance" := by rfl) (hg2 : Gl X y := by rfl)
    (hn : y ≠ "__name__" := by decide) (hd : (y == ("__debug__" : Str)) = false := by decide)
    (hst : starEach (e :: [.Name y p2]) X.env = (false, eval e X.env) :: starEach [.Name y p2] X.env := by rfl) (hst2 : starEach (.Name y p2 :: []) X.env = (false, eval (.Name y p2) X.env) :: starEach [] X.env := by rfl) (hpl : (backTo pos (starEach [.Name y p2] X.env)).any (·.1) = false := by rfl) :
    PE X (.Call (.Name "isinstance" p) [e, .Name y p2] [] pos) (tE X.K J (mIsi T f)) := by
  have hty : PE X (.Name y p2) (tC (.ty T.nm)) := pe_bltn hg2 hT hb rfl hn hd
  refine PE.by (pe_callB call_isi hg hi (by decide +kernel) (pa_cons he (pa_cons hty pa_nil hst2) hst) (by decide) (by decide) hst hpl) ?_
  rintro σ H Q ⟨G, ρ, R, h⟩
  exact ⟨G, ρ, R, h.bnd fun p h x H1 R1 r1 => ⟨x, .ty T.nm, _, _, _, rfl, .ty _, tyX_of r1, kit_d T p.1, fun _ => h _ _ R1 (.bl _)⟩⟩
theorem de_isiT2 (T U : Ty) {y z : Str} {p3 : Pos} {k : Nat} {tp : Pos} (hi : X.mg "isinstance" = none) (hT : X.mg y = none) (hU : X.mg z = none) (he : PE X e (tE X.K J f)) (hb : bootBuiltins y = some (.type T.nm) := by decide +kernel) (hb2 : bootBuiltins z = some (.type U.nm) := by decide +kernel)
    (hg : Gl X "isinstance" := by rfl) (hg2 : Gl X y := by rfl) (hg3 : Gl X z := by rfl) (hn : y ≠ "__name__" := by decide) (hd : (y == ("__debug__" : Str)) = false := by decide) (hn2 : z ≠ "__name__" := by decide) (hd2 : (z == ("__debug__" : Str)) = false := by decide)
    (hst : starEach (e :: [.Tuple [.Name y p2, .Name z p3] k tp]) X.env = (false, eval e X.env) :: starEach [.Tuple [.Name y p2, .Name z p3] k tp] X.env := by rfl)
    (hst2 : starEach (.Tuple [.Name y p2, .Name z p3] k tp :: []) X.env = (false, eval (.Tuple [.Name y p2, .Name z p3] k tp) X.env) :: starEach [] X.env := by rfl)
    (hst3 : starEach (.Name y p2 :: [.Name z p3]) X.env = (false, eval (.Name y p2) X.env) :: starEach [.Name z p3] X.env := by rfl) (hst4 : starEach (.Name z p3 :: []) X.env = (false, eval (.Name z p3) X.env) :: starEach [] X.env := by rfl)
    (hpl : (backTo pos (starEach [.Tuple [.Name y p2, .Name z p3] k tp] X.env)).any (·.1) = false := by rfl) :
    PE X (.Call (.Name "isinstance" p) [e, .Tuple [.Name y p2, .Name z p3] k tp] [] pos) (tE X.K J (mIsiT [T, U] f)) := by
  have hty : PE X (.Name y p2) (tC (.ty T.nm)) := pe_bltn hg2 hT hb rfl hn hd
  have htz : PE X (.Name z p3) (tC (.ty U.nm)) := pe_bltn hg3 hU hb2 rfl hn2 hd2
  refine PE.by (pe_callB call_isiT hg hi (by decide +kernel) (pa_cons he (pa_cons (pe_tup (pa_cons hty (pa_cons htz pa_nil hst4) hst3)) pa_nil hst2) hst) (by decide) (by decide) hst hpl) ?_
  rintro σ H Q ⟨G, ρ, R, h⟩
  refine ⟨G, ρ, R, h.bnd fun p h x H1 R1 r1 => ⟨by show 2 ≤ sizeLine; decide, fun q hq1 => ?_⟩⟩
  exact ⟨x, q, [.ty T.nm, .ty U.nm], _, [.type T.nm, .type U.nm], _, rfl, upd_same, .cons (.ty _) (.cons (.ty _) .nil), tyX_of (r1.same (Same.upd hq1)), kitAny_d p.1 [T, U], fun kf => h _ _ (R1.same kf (Same.upd hq1)) (.bl _)⟩
end
end L2.DL

namespace L2.DL
open PySem PySem.Spec PyProof.Rows

/-! ## targets -/
abbrev EvG := D → DEnv → Res DEnv
abbrev EvGs := List D → DEnv → Res DEnv
/-- a target of data: it touches the slots ix alone -/
def tG (K : PySem.W.Frag) (J : Jx) (ix : List Nat) (f : EvG) : TG := fun v σ H Q => ∃ G ρ d ρ', Rel K J G ρ σ H ∧ Rp K (MM G ρ σ) H v d ∧ f d ρ = .ok ρ' ∧
  ∀ σ', Rel K J G ρ' σ' H → wipe σ' ix = wipe σ ix → (∀ b, MM G ρ' σ' b → MM G ρ σ b) → Q σ' H
def tGs (K : PySem.W.Frag) (J : Jx) (ix : List Nat) (f : EvGs) : TGs := fun vs σ H Q => ∃ G ρ ds ρ', Rel K J G ρ σ H ∧ RpA K (MM G ρ σ) H vs ds ∧ f ds ρ = .ok ρ' ∧
  ∀ σ', Rel K J G ρ' σ' H → wipe σ' ix = wipe σ ix → (∀ b, MM G ρ' σ' b → MM G ρ σ b) → Q σ' H
theorem mm_set {G : Gh} {ρ : DEnv} {σ : St} {i : Nat} {d : D} {v : Option V} : ∀ b, MM G (ρ.set i (some (Sl.dat d))) (σ.set i v) b → MM G ρ σ b := fun b z => z.imp id fun ⟨j, q⟩ => ⟨j, (ownAt_set (fun _ _ z => by cases z) q).2⟩
theorem wipe_set {σ : St} {i : Nat} {v : Option V} : ∀ {ix : List Nat}, i ∈ ix → wipe (σ.set i v) ix = wipe σ ix
  | [], h => by cases h
  | j :: ix, h => by
    unfold wipe
    by_cases e : i ∈ ix
    · rw [wipe_set e]
    · have e' : i = j := (List.mem_cons.mp h).resolve_right e
      subst e'
      clear e h
      induction ix generalizing σ with
      | nil => unfold wipe; rw [List.set_set]
      | cons k ix ih =>
        unfold wipe
        by_cases hk : k = i
        · subst hk
          rw [List.set_set, List.set_set]
          exact ih
        · rw [List.set_comm _ _ hk, List.set_comm _ _ hk, ih]
def gN (i : Nat) : EvG := fun d ρ => if i < ρ.length then .ok (ρ.set i (some (Sl.dat d))) else stuck
def gT (gs : EvGs) (n : Nat) : EvG := fun d ρ => match d with | .tuple xs => if xs.length = n then gs xs ρ else stuck | _ => stuck
def gsN : EvGs := fun ds ρ => match ds with | [] => .ok ρ | _ => stuck
def gsC (g : EvG) (gs : EvGs) : EvGs := fun ds ρ => match ds with | d :: r => bnd (g d ρ) fun ρ1 => gs r ρ1 | [] => stuck
section
variable {X : Cx} {J : Jx} {tg : Expr} {es : List Expr} {pos : Pos} {g : EvG} {gs : EvGs} {ix : List Nat}
theorem PG.imp {t t' : TG} (h : PG X tg t) (hh : ∀ v σ H Q, t' v σ H Q → t v σ H Q) : PG X tg t' := ⟨fun pins s σ H v u Q I r hq => h.run pins s σ H v u Q I r (hh v σ H Q hq)⟩
theorem PGs.imp {ts : List Expr} {t t' : TGs} (h : PGs X ts t) (hh : ∀ v σ H Q, t' v σ H Q → t v σ H Q) : PGs X ts t' := ⟨fun pins s σ H v u Q I r hq => h.run pins s σ H v u Q I r (hh v σ H Q hq)⟩
theorem dg_name (i : Nat) {x : Str} (hN : X.N.Nodup) (hm : i ∈ ix) (hi : X.N[i]? = some x := by rfl) (hx : Loc X.env.scope x := by first | exact Or.inl rfl | exact Or.inr rfl) (hf : X.fn x = true ∨ X.env.scope.names.lookup x = some .local := by first | exact .inl rfl | exact .inr rfl) :
    PG X (.Name x pos) (tG X.K J ix (gN i)) := by
  refine PG.imp (pg_name hN hi hx hf) ?_
  rintro v σ H Q ⟨G, ρ, d, ρ', R, r, hf, hq⟩
  obtain ⟨hl, rfl⟩ := ite_ok hf
  exact hq _ (R.set hl r) (wipe_set hm) mm_set
theorem dgs_nil : PGs X [] (tGs X.K J ix gsN) := by
  refine PGs.imp pgs_nil ?_
  rintro vs σ H Q ⟨G, ρ, d, ρ', R, r, hf, hq⟩
  unfold gsN at hf
  split at hf
  · cases hf
    cases r
    exact ⟨rfl, hq _ R rfl fun _ z => z⟩
  · cases hf
theorem dgs_cons {e : Expr} (h1 : PG X e (tG X.K J ix g)) (h2 : PGs X es (tGs X.K J ix gs)) (hs : (assignEach (e :: es) X.env).map (·.2) = assign e X.env :: (assignEach es X.env).map (·.2) := by rfl) : PGs X (e :: es) (tGs X.K J ix (gsC g gs)) := by
  refine PGs.imp (pgs_cons h1 h2 hs) ?_
  rintro vs σ H Q ⟨G, ρ, d, ρ', R, r, hf, hq⟩
  unfold gsC at hf
  split at hf
  · rename_i d r'
    obtain ⟨ρ1, h1, h2⟩ := bnd_inv hf
    cases r with
    | cons ra rb =>
      refine ⟨_, _, rfl, G, ρ, d, ρ1, R, ra, h1, fun σ1 R1 w1 m1 => ?_⟩
      exact ⟨G, ρ1, _, ρ', R1, rb.weak m1, h2, fun σ2 R2 w2 m2 => hq _ R2 (w2.trans w1) fun b z => m1 b (m2 b z)⟩
  · cases hf
theorem dg_tup {k n : Nat} (hc : X.calm = true) (h : PGs X es (tGs X.K J ix gs)) (hn : (assignEach es X.env).length = n := by rfl) (hst : (assignEach es X.env).findIdx? (·.1) = none := by rfl) : PG X (.Tuple es k pos) (tG X.K J ix (gT gs n)) := by
  refine PG.imp (pg_tup hc h hn hst) ?_
  rintro v σ H Q ⟨G, ρ, d, ρ', R, r, hf, hq⟩
  unfold gT at hf
  split at hf
  · rename_i xs
    split at hf
    · rename_i hl
      obtain ⟨a, vs, rfl, n', q, r⟩ := r.tup_inv
      exact ⟨a, vs, rfl, q, by rw [r.len]; exact hl, G, ρ, xs, ρ', R, r, hf, hq⟩
    · cases hf
  · cases hf
end

/-! ## blocks -/
def mNx : EvS := fun ρ => .ok (.nx, ρ)
def mSeq (f g : EvS) : EvS := fun ρ => bnd (f ρ) fun p => match p.1 with
  | .nx => g p.2
  | c => .ok (c, p.2)
section
variable {X : Cx} {J : Jx} {st : Stmt} {sts : List Stmt} {e : Expr} {pos : Pos} {f fc : EvF} {fs gs' : EvS} {fl : EvA}
theorem PSs.imp {t t' : TS} (h : PSs X sts t) (hh : ∀ E σ H, t' E σ H → t E σ H) : PSs X sts t' := ⟨fun pins s σ H E I hq => h.run pins s σ H E I (hh E σ H hq)⟩
theorem PS.imp {t t' : TS} (h : PS X st t) (hh : ∀ E σ H, t' E σ H → t E σ H) : PS X st t' := ⟨fun pins s σ H E I hq => h.run pins s σ H E I (hh E σ H hq)⟩
theorem dss_nil : PSs X [] (tS X.K J mNx) := by
  refine PSs.imp pss_nil ?_
  rintro E σ H ⟨G, ρ, R, h⟩
  exact h _ _ R
theorem dss_one (h : PS X st (tS X.K J fs)) : PSs X [st] (tS X.K J fs) := pss_one h
theorem dss_cons (h : PS X st (tS X.K J fs)) (h2 : PSs X sts (tS X.K J gs')) : PSs X (st :: sts) (tS X.K J (mSeq fs gs')) := by
  refine PSs.imp (pss_cons h h2) ?_
  rintro E σ H ⟨G, ρ, R, h⟩
  refine ⟨G, ρ, R, h.bnd fun p h => ?_⟩
  obtain ⟨c1, ρ1⟩ := p
  cases c1 with
  | nx => exact fun σ' H' R' => ⟨G, ρ1, R', h⟩
  | bk => exact h
  | ct => exact h
  | rt d => exact h
def mPass : EvS := mNx
theorem ds_pass : PS X (.Pass pos) (tS X.K J mNx) := by
  refine PS.imp ps_pass ?_
  rintro E σ H ⟨G, ρ, R, h⟩
  exact h _ _ R
def mBk : EvS := fun ρ => .ok (.bk, ρ)
def mCt : EvS := fun ρ => .ok (.ct, ρ)
theorem ds_break : PS X (.Break pos) (tS X.K J mBk) := by
  refine PS.imp ps_break ?_
  rintro E σ H ⟨G, ρ, R, h⟩
  exact h _ _ R
theorem ds_continue : PS X (.Continue pos) (tS X.K J mCt) := by
  refine PS.imp ps_continue ?_
  rintro E σ H ⟨G, ρ, R, h⟩
  exact h _ _ R
theorem mb_mm {G : Gh} {ρ : DEnv} {σ : St} : ∀ b, MB G ρ σ b → MM G ρ σ b := fun b z => z.imp id fun ⟨i, xs, h1, h2⟩ => ⟨i, true, xs, h1, h2⟩
/-- return e -/
def mRet (f : EvF) : EvS := fun ρ => bnd (f ρ) fun p => .ok (.rt p.1, p.2)
theorem ds_ret (h : PE X e (tE X.K J f)) : PS X (.Return (some e) pos) (tS X.K J (mRet f)) := by
  refine PS.imp (ps_ret h) ?_
  rintro E σ H ⟨G, ρ, R, h⟩
  exact ⟨G, ρ, R, h.e.bnd fun p h v H' R' r => h σ v H' R' (r.weak mb_mm)⟩
def mRetN : EvS := fun ρ => .ok (.rt .none, ρ)
theorem ds_retN : PS X (.Return none pos) (tS X.K J mRetN) := by
  refine PS.imp ps_retN ?_
  rintro E σ H ⟨G, ρ, R, h⟩
  exact h σ _ H R .non
/-- a ghost step ahead of a statement: a list of the def's own becomes data -/
def mFrz (i : Nat) (f : EvS) : EvS := fun ρ => match ρ[i]? with
  | some (some (Sl.ob false o)) => match o.dat with
    | some d => f (ρ.set i (some (Sl.dat d)))
    | none => stuck
  | _ => stuck
theorem dss_frz (i : Nat) (h : PSs X sts (tS X.K J fs)) : PSs X sts (tS X.K J (mFrz i fs)) := by
  refine PSs.imp h ?_
  rintro E σ H ⟨G, ρ, R, h⟩
  unfold mFrz at h
  split at h
  · rename_i o e
    split at h
    · rename_i d ed
      exact ⟨G, _, R.freeze e fun a u ha n r => r.dat ed ha n, h⟩
    · exact h.elim
  · exact h.elim
def mIfS (fc : EvF) (f g : EvS) : EvS := fun ρ => bnd (fc ρ) fun p => match p.1 with
  | .bool true => f p.2
  | .bool false => g p.2
  | _ => stuck
theorem ds_if {c : Expr} {a b : List Stmt} (hc : PT X c (tTs X.K J fc)) (ha : PSs X a (tS X.K J fs)) (hb : PSs X b (tS X.K J gs')) : PS X (.If c a b pos) (tS X.K J (mIfS fc fs gs')) := by
  refine PS.imp (ps_if hc ha hb) ?_
  rintro E σ H ⟨G, ρ, R, h⟩
  refine ⟨G, ρ, R, Out.e (h.bnd fun p h => ?_)⟩
  obtain ⟨d, ρ1⟩ := p
  cases d with
  | bool b =>
    refine ⟨b, rfl, fun H1 R1 => ?_⟩
    cases b with
    | true => rw [if_pos rfl]; exact ⟨G, ρ1, R1, h⟩
    | false => rw [if_neg Bool.false_ne_true]; exact ⟨G, ρ1, R1, h⟩
  | _ => exact h.elim

/-! ## assignments -/
theorem Out.ite {α : Type} {w : Wx} {c : Prop} [Decidable c] {x : Res α} {k : α → Prop} (h : Out w (if c then x else stuck) k) : c ∧ Out w x k := by
  split at h
  · rename_i hc; exact ⟨hc, h⟩
  · exact h.elim
def mSet (i : Nat) (f : EvF) : EvS := fun ρ => bnd (f ρ) fun p => if i < p.2.length then .ok (.nx, p.2.set i (some (Sl.dat p.1))) else stuck
def mSetOwn (i : Nat) (f : EvA) : EvS := fun ρ => bnd (f ρ) fun p => if i < p.2.length then .ok (.nx, p.2.set i (some (Sl.own false p.1))) else stuck
theorem rd_set {K : PySem.W.Frag} {i : Nat} {E : Ends} {σ : St} {H : Hp} (h : tS K J (mSet i f) E σ H) : tAsg (tE K J f) (gName i) E σ H := by
  obtain ⟨G, ρ, R, h⟩ := h
  exact ⟨G, ρ, R, h.e.bnd fun p h v H' R' r => by
    obtain ⟨hl, h⟩ := h.ite
    exact h _ _ (R'.set hl r)⟩
theorem rd_setOwn {K : PySem.W.Frag} {i : Nat} {E : Ends} {σ : St} {H : Hp} (h : tS K J (mSetOwn i fl) E σ H) : tAsg (tL K J fl) (gName i) E σ H := by
  obtain ⟨G, ρ, R, h⟩ := h
  exact ⟨G, ρ, R, h.e.bnd fun p h a vs H' R' ha hx hM hf => by
    obtain ⟨hl, h⟩ := h.ite
    exact h _ _ (R'.setOb hl ha (.lst hx) hM hf)⟩
/-- a slot takes a new object -/
def mSetOb (i : Nat) (f : EvN) : EvS := fun ρ => bnd (f ρ) fun p => if i < p.2.length then .ok (.nx, p.2.set i (some (Sl.ob false p.1))) else stuck
theorem rd_setOb {K : PySem.W.Frag} {i : Nat} {E : Ends} {σ : St} {H : Hp} {fn : EvN} (h : tS K J (mSetOb i fn) E σ H) : tAsg (tN K J fn) (gName i) E σ H := by
  obtain ⟨G, ρ, R, h⟩ := h
  exact ⟨G, ρ, R, h.e.bnd fun p h a u H' R' ha hx hM hf => by
    obtain ⟨hl, h⟩ := h.ite
    exact h _ _ (R'.setOb hl ha hx hM hf)⟩
theorem ds_setOb (i : Nat) {x : Str} {pos' : Pos} {fn : EvN} (hN : X.N.Nodup) (he : PE X e (tN X.K J fn)) (hi : X.N[i]? = some x := by rfl) (hx : Loc X.env.scope x := by first | exact Or.inl rfl | exact Or.inr rfl) (hs : swapsWith e (some (.Name x pos')) pos.line X.env = pure false := by rfl) (hf : X.fn x = true ∨ X.env.scope.names.lookup x = some .local := by first | exact .inl rfl | exact .inr rfl) :
    PS X (.Assign [.Name x pos'] e pos) (tS X.K J (mSetOb i fn)) := PS.imp (ps_set hN hi hx he hs hf) fun _ _ _ h => rd_setOb h
theorem ds_set (i : Nat) {x : Str} {pos' : Pos} (hN : X.N.Nodup) (he : PE X e (tE X.K J f)) (hi : X.N[i]? = some x := by rfl) (hx : Loc X.env.scope x := by first | exact Or.inl rfl | exact Or.inr rfl) (hs : swapsWith e (some (.Name x pos')) pos.line X.env = pure false := by rfl) (hf : X.fn x = true ∨ X.env.scope.names.lookup x = some .local := by first | exact .inl rfl | exact .inr rfl) :
    PS X (.Assign [.Name x pos'] e pos) (tS X.K J (mSet i f)) := PS.imp (ps_set hN hi hx he hs hf) fun _ _ _ h => rd_set h
theorem ds_setOwn (i : Nat) {x : Str} {pos' : Pos} (hN : X.N.Nodup) (he : PE X e (tL X.K J fl)) (hi : X.N[i]? = some x := by rfl) (hx : Loc X.env.scope x := by first | exact Or.inl rfl | exact Or.inr rfl) (hs : swapsWith e (some (.Name x pos')) pos.line X.env = pure false := by rfl) (hf : X.fn x = true ∨ X.env.scope.names.lookup x = some .local := by first | exact .inl rfl | exact .inr rfl) :
    PS X (.Assign [.Name x pos'] e pos) (tS X.K J (mSetOwn i fl)) := PS.imp (ps_set hN hi hx he hs hf) fun _ _ _ h => rd_setOwn h
/-- a, b = e, e a tuple -/
def mAsg (f : EvF) (g : EvG) : EvS := fun ρ => bnd (f ρ) fun p => bnd (pur (g p.1 p.2)) fun ρ2 => .ok (.nx, ρ2)
theorem ds_asg {tg : Expr} {g : EvG} {ix : List Nat} (he : PE X e (tE X.K J f)) (hg : PG X tg (tG X.K J ix g)) (hs : swapsWithSole [tg] e pos.line X.env = pure false := by rfl) (hw : swappedStores [tg] e X.env = pure none := by rfl)
    (h1 : (assignEach [tg] X.env).map (·.2) = [assign tg X.env] := by rfl) : PS X (.Assign [tg] e pos) (tS X.K J (mAsg f g)) := by
  refine PS.imp (ps_asg he hg hs hw h1) ?_
  rintro E σ H ⟨G, ρ, R, h⟩
  exact ⟨G, ρ, R, h.e.bnd fun p h v H' R' r => by
    obtain ⟨ρ2, h2, h⟩ := h.pur
    exact ⟨G, p.2, p.1, ρ2, R', r, h2, fun σ' R'' _ _ => h _ _ R''⟩⟩
theorem mVar_inv {i : Nat} {ρ ρ' : DEnv} {d : D} (h : mVar i ρ = .ok (d, ρ')) : ρ' = ρ ∧ ρ[i]? = some (some (Sl.dat d)) := by
  unfold mVar at h
  split at h
  · rename_i d' e
    cases h
    exact ⟨rfl, e⟩
  · cases h
/-- x += e -/
def mAug (i : Nat) (g : D → D → Res D) (f : EvF) : EvS := fun ρ => bnd (pur (mVar i ρ)) fun p => bnd (f ρ) fun q => bnd (pur (g p.1 q.1)) fun z => if i < q.2.length then .ok (.nx, q.2.set i (some (Sl.dat z))) else stuck
theorem ds_aug (i : Nat) {x : Str} {op : Operator} {g : D → D → Res D} {pos' : Pos} (hN : X.N.Nodup) (ho : OpR X (inplaceOp op) (rD X.K g)) (he : PE X e (tE X.K J f)) (hi : X.N[i]? = some x := by rfl) (hx : Loc X.env.scope x := by first | exact Or.inl rfl | exact Or.inr rfl)
    (hf : X.fn x = true ∨ X.env.scope.names.lookup x = some .local := by first | exact .inl rfl | exact .inr rfl) : PS X (.AugAssign (.Name x pos') op e pos) (tS X.K J (mAug i g f)) := by
  refine PS.by (ps_aug hN hi hx he ho hf) ?_
  rintro E σ H ⟨G, ρ, R, h⟩
  obtain ⟨⟨d, ρ1⟩, h1, h⟩ := h.pur
  obtain ⟨_, hv⟩ := mVar_inv h1
  obtain ⟨v, s1, r1⟩ := R.dat i d hv
  refine ⟨v, s1, G.hold v d, ρ, R.hold r1, h.e.hold.bnd fun p h y H2 R2 r2 => ?_⟩
  obtain ⟨R3, r3⟩ := R2.unhold
  obtain ⟨z, h3, h⟩ := h.pur
  obtain ⟨hl, h⟩ := h.ite
  exact ⟨MM G p.2 σ, d, p.1, z, r3, r2, R3.domM, h3, fun v' H' s' r' kf => h _ _ ((R3.same kf s').set hl r')⟩
def iaddD : D → D → Res D
  | .int i, .int j => .ok (.int (i + j))
  | _, _ => stuck
theorem oi_add : OpR X (inplaceOp .Add) (rD X.K iaddD) := by
  rintro pins s σ H x y v u Q I rx ry ⟨M, d, e, z, hd, he, hm, hg, hq⟩
  unfold iaddD at hg
  split at hg
  · cases hg
    cases hd; cases he
    exact iop_add pins s σ H _ _ v u Q I rx ry ⟨_, _, rfl, rfl, hq _ _ (Same.refl _) (.int _)⟩
  · cases hg
theorem oi_sub : OpR X (inplaceOp .Sub) (rD X.K subD) := by
  rintro pins s σ H x y v u Q I rx ry ⟨M, d, e, z, hd, he, hm, hg, hq⟩
  unfold subD at hg
  split at hg
  · cases hg
    cases hd; cases he
    exact iop_sub pins s σ H _ _ v u Q I rx ry ⟨_, _, rfl, rfl, hq _ _ (Same.refl _) (.int _)⟩
  · cases hg

/-! ## lists of the def's own, changed in place -/
def ownAt2 (i : Nat) (ρ : DEnv) : Res (Bool × List D) := match ρ[i]? with | some (some (Sl.ob b (.lst xs))) => .ok (b, xs) | _ => stuck
theorem ownAt2_inv {i : Nat} {ρ : DEnv} {p : Bool × List D} (h : ownAt2 i ρ = .ok p) : ρ[i]? = some (some (Sl.own p.1 p.2)) := by
  unfold ownAt2 at h
  split at h
  · rename_i b ys e
    cases h
    exact e
  · cases h
theorem Rel.ownL {K : PySem.W.Frag} {G : Gh} {ρ : DEnv} {σ : St} {H : Hp} {i : Nat} {b : Bool} {xs : List D} (R : Rel K J G ρ σ H) (e : ρ[i]? = some (some (Sl.ob b (.lst xs)))) : ∃ a vs, σ[i]? = some (some (V.ref a)) ∧ H a = some (.lst vs) ∧ RpA K (MM G ρ σ) H vs xs := by
  obtain ⟨a, u, h1, h2, h3, _⟩ := R.own i b _ e
  cases h3 with
  | lst r => exact ⟨a, _, h1, h2, r⟩
variable {x : Str} {px apos cpos : Pos}
theorem tyV_lst {K : PySem.W.Frag} {H : Hp} {a : Addr} {vs : List V} (h : H a = some (.lst vs)) : tyV K "list" (.ref a) H := Or.inl ⟨rfl, _, Or.inl (Or.inl h)⟩
/-- xs.append(e) -/
def mApp (i : Nat) (f : EvF) : EvS := fun ρ => bnd (pur (ownAt2 i ρ)) fun _ => bnd (f ρ) fun q => bnd (pur (ownAt2 i q.2)) fun p => if p.2.length < lim then .ok (.nx, q.2.set i (some (Sl.own p.1 (p.2 ++ [q.1])))) else stuck
theorem ds_append (i : Nat) (he : PE X e (tE X.K J f)) (hN : X.N[i]? = some x := by rfl) (hv : Vis X.env.scope x := by first | exact Or.inl rfl | exact Or.inr (Or.inl rfl) | exact Or.inr (Or.inr rfl)) (hd : (x == ("__debug__" : Str)) = false := by decide) (hcd : (x == ("__classdict__" : Str)) = false := by decide)
    (hst : starEach (e :: []) X.env = (false, eval e X.env) :: starEach [] X.env := by rfl)
    (hbase : attributeBase (.Name x px) "append" X.env (eval (.Name x px) X.env) = eval (.Name x px) X.env := by rfl)
    (hfew : ((backTo cpos (starEach (e :: []) X.env)).all (fun x => !x.1) && (backToKw cpos (keywordEach [] X.env)).all (fun x => x.1.isSome) && decide ((e :: []).length + ([] : List Keyword).length + (if ([] : List Keyword).isEmpty then 0 else 1) < 30)) = true := by rfl)
    (hline : (apos.endLine == cpos.line) = true := by rfl) (hplain : (backTo cpos (starEach [] X.env)).any (·.1) = false := by rfl) (hsw : swapsWith (.Call (.Attribute (.Name x px) "append" apos) [e] [] cpos) none pos.line X.env = pure false := by rfl) :
    PS X (.Expr (.Call (.Attribute (.Name x px) "append" apos) [e] [] cpos) pos) (tS X.K J (mApp i f)) := by
  refine PS.by (ps_expr (pe_bm PySem.F.plainAttrs_list PySem.F.slot_list_append PySem.F.type_list_append mt_append (pv i hN hv hd hcd) (pa_cons he pa_nil hst) hbase hfew hline hst hplain) hsw) ?_
  rintro E σ H ⟨G, ρ, R, h⟩
  obtain ⟨p0, h0, h⟩ := h.pur
  obtain ⟨a, vs, s0, H0, _⟩ := R.ownL (ownAt2_inv h0)
  refine ⟨.ref a, s0, tyV_lst H0, G, ρ, R, h.e.bnd fun p h y H1 R1 r1 => ?_⟩
  obtain ⟨p1, h2, h⟩ := h.pur
  obtain ⟨hl, h⟩ := h.ite
  have e1 := ownAt2_inv h2
  obtain ⟨a1, vs1, s1, hH, hr⟩ := R1.ownL e1
  rw [s0] at s1
  cases s1
  refine ⟨a, vs1, y, rfl, rfl, hH, ?_, fun kf => ?_⟩
  · rw [hr.len]
    exact Nat.lt_of_lt_of_le hl (lim_le (Nat.le_refl _))
  · exact h _ _ (R1.write e1 s0 kf (.lst (hr.append (.cons r1 .nil))))
/-- xs.extend(e), e a new list -/
def mExt (i : Nat) (f : EvA) : EvS := fun ρ => bnd (pur (ownAt2 i ρ)) fun _ => bnd (f ρ) fun q => bnd (pur (ownAt2 i q.2)) fun p => if p.2.length + q.1.length ≤ lim then .ok (.nx, q.2.set i (some (Sl.own p.1 (p.2 ++ q.1)))) else stuck
theorem ds_extend (i : Nat) (he : PE X e (tL X.K J fl)) (hN : X.N[i]? = some x := by rfl) (hv : Vis X.env.scope x := by first | exact Or.inl rfl | exact Or.inr (Or.inl rfl) | exact Or.inr (Or.inr rfl)) (hd : (x == ("__debug__" : Str)) = false := by decide) (hcd : (x == ("__classdict__" : Str)) = false := by decide)
    (hst : starEach (e :: []) X.env = (false, eval e X.env) :: starEach [] X.env := by rfl)
    (hbase : attributeBase (.Name x px) "extend" X.env (eval (.Name x px) X.env) = eval (.Name x px) X.env := by rfl)
    (hfew : ((backTo cpos (starEach (e :: []) X.env)).all (fun x => !x.1) && (backToKw cpos (keywordEach [] X.env)).all (fun x => x.1.isSome) && decide ((e :: []).length + ([] : List Keyword).length + (if ([] : List Keyword).isEmpty then 0 else 1) < 30)) = true := by rfl)
    (hline : (apos.endLine == cpos.line) = true := by rfl) (hplain : (backTo cpos (starEach [] X.env)).any (·.1) = false := by rfl) (hsw : swapsWith (.Call (.Attribute (.Name x px) "extend" apos) [e] [] cpos) none pos.line X.env = pure false := by rfl) :
    PS X (.Expr (.Call (.Attribute (.Name x px) "extend" apos) [e] [] cpos) pos) (tS X.K J (mExt i fl)) := by
  refine PS.by (ps_expr (pe_bm PySem.F.plainAttrs_list PySem.F.slot_list_extend PySem.F.type_list_extend mt_extend (pv i hN hv hd hcd) (pa_cons he pa_nil hst) hbase hfew hline hst hplain) hsw) ?_
  rintro E σ H ⟨G, ρ, R, h⟩
  obtain ⟨p0, h0, h⟩ := h.pur
  obtain ⟨a, vs, s0, H0, _⟩ := R.ownL (ownAt2_inv h0)
  refine ⟨.ref a, s0, tyV_lst H0, G, ρ, R, h.e.bnd fun p h a2 vs2 H1 R1 ha2 hx2 hM hf2 => ?_⟩
  obtain ⟨p1, h2, h⟩ := h.pur
  obtain ⟨hl, h⟩ := h.ite
  have e1 := ownAt2_inv h2
  have R1' := R1.unadd
  obtain ⟨a1, vs1, s1, hH, hr⟩ := R1'.ownL e1
  rw [s0] at s1
  cases s1
  have hx2' := hx2.weak (M' := MM G p.2 σ) fun b z => mm_add.mpr (.inl z)
  refine ⟨a, a2, vs1, vs2, rfl, rfl, hH, ha2, ?_, fun kf => ?_⟩
  · rw [hr.len, hx2'.len]
    exact lim_le hl
  · exact h _ _ (R1'.write e1 s0 kf (.lst (hr.append hx2')))
/-- xs[e] = v -/
def mStore (i : Nat) (fv fi : EvF) : EvS := fun ρ => bnd (fv ρ) fun v => bnd (pur (ownAt2 i v.2)) fun _ => bnd (fi v.2) fun q => bnd (pur (ownAt2 i q.2)) fun p => match q.1 with
  | .int k => match ixN p.2.length k with
    | some j => .ok (.nx, q.2.set i (some (Sl.own p.1 (p.2.set j v.1))))
    | none => stuck
  | _ => stuck
theorem ds_store (i : Nat) {b : Expr} {fi : EvF} {spos : Pos} (he : PE X e (tE X.K J f)) (hb : PE X b (tE X.K J fi)) (hN : X.N[i]? = some x := by rfl) (hv : Vis X.env.scope x := by first | exact Or.inl rfl | exact Or.inr (Or.inl rfl) | exact Or.inr (Or.inr rfl)) (hd : (x == ("__debug__" : Str)) = false := by decide)
    (hcd : (x == ("__classdict__" : Str)) = false := by decide)
    (ha : ∀ v, assign (.Subscript (.Name x px) b spos) X.env v = (do
      let ov ← holding [v] (eval (.Name x px) X.env)
      let iv ← holding [v, ov] (eval b X.env)
      standAt spos
      holding [v, ov, iv] (setItem ov iv v)
      release [v, ov, iv] []) := by intro _; rfl) (hs : swapsWithSole [.Subscript (.Name x px) b spos] e pos.line X.env = pure false := by rfl) (hw : swappedStores [.Subscript (.Name x px) b spos] e X.env = pure none := by rfl)
    (h1 : (assignEach [.Subscript (.Name x px) b spos] X.env).map (·.2) = [assign (.Subscript (.Name x px) b spos) X.env] := by rfl) :
    PS X (.Assign [.Subscript (.Name x px) b spos] e pos) (tS X.K J (mStore i f fi)) := by
  refine PS.by (ps_asg he (pg_sub (pv i hN hv hd hcd) hb set_list ha) hs hw h1) ?_
  rintro E σ H ⟨G, ρ, R, h⟩
  refine ⟨G, ρ, R, h.e.bnd fun p h v H1 R1 r1 => ?_⟩
  obtain ⟨p0, h0, h⟩ := h.pur
  obtain ⟨a, vs, s0, H0, _⟩ := R1.ownL (ownAt2_inv h0)
  refine ⟨.ref a, s0, G.hold v p.1, p.2, R1.hold r1, h.hold.bnd fun q h y H2 R2 r2 => ?_⟩
  obtain ⟨R3, r3⟩ := R2.unhold
  obtain ⟨p1, h3, h⟩ := h.pur
  have e1 := ownAt2_inv h3
  obtain ⟨a1, vs1, s1, hH, hr⟩ := R3.ownL e1
  rw [s0] at s1
  cases s1
  obtain ⟨d2, ρ2⟩ := q
  cases d2 with
  | int k =>
    dsimp only at h
    split at h
    · rename_i j ej
      refine ⟨a, vs1, k, j, rfl, r2.int_inv, hH, by rw [hr.len]; exact ej, fun kf => ?_⟩
      exact h _ _ (R3.write e1 s0 kf (.lst (RpA.set r3 j hr)))
    · exact h.elim
  | _ => exact h.elim
/-- xs[k] += e -/
def mAugS (i : Nat) (g : D → D → Res D) (fi f : EvF) : EvS := fun ρ => bnd (pur (ownAt2 i ρ)) fun _ => bnd (fi ρ) fun q => bnd (pur (ownAt2 i q.2)) fun p => match q.1 with
  | .int k => match atI p.2 k with
    | some old => bnd (f q.2) fun r => bnd (pur (ownAt2 i r.2)) fun p2 => match ixN p2.2.length k with
      | some j => bnd (pur (g old r.1)) fun z => .ok (.nx, r.2.set i (some (Sl.own p2.1 (p2.2.set j z))))
      | none => stuck
    | none => stuck
  | _ => stuck
theorem get_list : PGet X (rIxL X.K) := by
  intro pins s σ H x y v u Q I rx ry h
  obtain ⟨p, xs, i, z, rfl, rfl, hq, he, q⟩ := h
  cases rx
  obtain ⟨t, rfl⟩ := ry
  obtain ⟨its, r, pl, hz⟩ := I.list hq
  obtain ⟨j, h1, h2, h3, h4, h5⟩ := atI_get he
  obtain ⟨w, ew, rw'⟩ := r.get h2
  have hl := r.length
  have hn := line63
  have fin : EP X pins σ Q w s := ⟨z, H, I, rw', q⟩
  by_cases h0 : 0 ≤ i
  · have hj : i.toNat = j := by
      rw [seqIndex_of h0 h5] at h1
      exact Option.some.inj h1
    exact wpAny_getItem_list pl.isList h0 (by omega) (by rw [hj]; simpa using ew) fin
  · have hj : (i + (its.toArray.size : Int)).toNat = j := by
      rw [seqIndex_neg (by omega) h4] at h1
      rw [List.size_toArray, ← hl]
      exact Option.some.inj h1
    exact wpAny_getItem_list_neg pl.isList (by omega) (by rw [List.size_toArray] <;> omega) (by omega) (by rw [hj]; simpa using ew) fin
theorem ds_augS (i : Nat) {b : Expr} {fi : EvF} {op : Operator} {g : D → D → Res D} {spos : Pos} (ho : OpR X (inplaceOp op) (rD X.K g)) (hb : PE X b (tE X.K J fi)) (he : PE X e (tE X.K J f)) (hN : X.N[i]? = some x := by rfl)
    (hv : Vis X.env.scope x := by first | exact Or.inl rfl | exact Or.inr (Or.inl rfl) | exact Or.inr (Or.inr rfl)) (hd : (x == ("__debug__" : Str)) = false := by decide) (hcd : (x == ("__classdict__" : Str)) = false := by decide)
    (ha : ∀ ov iv new, augStore b ov iv new = (do holding [new, ov, iv] (setItem ov iv new); release [new, ov, iv] []; pure .next) := by intros; rfl) :
    PS X (.AugAssign (.Subscript (.Name x px) b spos) op e pos) (tS X.K J (mAugS i g fi f)) := by
  refine PS.by (ps_augS (pv i hN hv hd hcd) hb get_list he ho set_list ha) ?_
  rintro E σ H ⟨G, ρ, R, h⟩
  obtain ⟨p0, h0, h⟩ := h.pur
  obtain ⟨a, vs, s0, H0, _⟩ := R.ownL (ownAt2_inv h0)
  refine ⟨.ref a, s0, G, ρ, R, h.e.bnd fun p h y H1 R1 r1 => ?_⟩
  obtain ⟨p1, h2, h⟩ := h.pur
  have e1 := ownAt2_inv h2
  obtain ⟨a1, vs1, s1, hH, hr⟩ := R1.ownL e1
  rw [s0] at s1
  cases s1
  obtain ⟨d, ρ1⟩ := p
  cases d with
  | int k =>
    dsimp only at h
    split at h
    · rename_i old eo
      obtain ⟨vo, q1, q2⟩ := hr.at eo
      refine ⟨a, vs1, k, vo, rfl, r1.int_inv, SqL.of hH, q1, ?_⟩
      refine ⟨G.hold vo old, ρ1, R1.hold q2, h.hold.bnd fun p3 h y3 H3 R3 r3 => ?_⟩
      obtain ⟨R4, r4⟩ := R3.unhold
      obtain ⟨p4, h4, h⟩ := h.pur
      have e4 := ownAt2_inv h4
      split at h
      · rename_i j ej
        obtain ⟨z, h5, h⟩ := h.pur
        refine ⟨MM G p3.2 σ, old, p3.1, z, r4, r3, R4.domM, h5, fun v5 H5 s5 r5 => ?_⟩
        obtain ⟨a6, vs6, s6, hH6, hr6⟩ := R4.ownL e4
        rw [s0] at s6
        cases s6
        have ya := r1.int_inv
        refine ⟨a, vs6, k, j, rfl, ya, s5 _ _ hH6, by rw [hr6.len]; exact ej, fun kf => ?_⟩
        have kf5 : KF X.K H5 := fun b o eb => by
          by_cases hba : b = a
          · subst hba
            have := kf b o eb
            rw [upd_same] at this
            cases this
          · have := kf b o eb
            rw [upd_ne hba] at this
            exact this
        have R5 := R4.same kf5 s5
        exact h _ _ (R5.write e4 s0 kf (.lst (RpA.set r5 j (hr6.same s5))))
      · exact h.elim
    · exact h.elim
  | _ => exact h.elim
/-- xs.pop(e), the value used -/
def mPopAt (i : Nat) (f : EvF) : EvF := fun ρ => bnd (pur (ownAt2 i ρ)) fun _ => bnd (f ρ) fun q => bnd (pur (ownAt2 i q.2)) fun p => match q.1 with
  | .int k => if -1000000 ≤ k ∧ k ≤ 1000000 then (match ixN p.2.length k with
    | some j => match p.2[j]? with
      | some d => .ok (d, q.2.set i (some (Sl.own p.1 (p.2.eraseIdx j))))
      | none => stuck
    | none => stuck) else stuck
  | _ => stuck
theorem ixN_seq {n : Nat} {k : Int} {j : Nat} (h : ixN n k = some j) : seqIndex? k n = some j := by
  unfold ixN at h
  split at h
  · rename_i h0
    split at h
    · rename_i h1
      cases h
      exact seqIndex_of h0 h1
    · cases h
  · split at h
    · rename_i h0 h1
      cases h
      exact seqIndex_neg (by omega) h1
    · cases h
theorem RpA.eraseIdx {K : PySem.W.Frag} {M : Addr → Prop} {H : Hp} : ∀ {vs : List V} {ds : List D} (i : Nat), RpA K M H vs ds → RpA K M H (vs.eraseIdx i) (ds.eraseIdx i)
  | _, _, _, .nil => .nil
  | _, _, 0, .cons _ t => t
  | _, _, i + 1, .cons r t => .cons r (RpA.eraseIdx i t)
theorem de_popAt (i : Nat) (he : PE X e (tE X.K J f)) (hN : X.N[i]? = some x := by rfl) (hv : Vis X.env.scope x := by first | exact Or.inl rfl | exact Or.inr (Or.inl rfl) | exact Or.inr (Or.inr rfl)) (hd : (x == ("__debug__" : Str)) = false := by decide) (hcd : (x == ("__classdict__" : Str)) = false := by decide)
    (hst : starEach (e :: []) X.env = (false, eval e X.env) :: starEach [] X.env := by rfl)
    (hbase : attributeBase (.Name x px) "pop" X.env (eval (.Name x px) X.env) = eval (.Name x px) X.env := by rfl)
    (hfew : ((backTo cpos (starEach (e :: []) X.env)).all (fun x => !x.1) && (backToKw cpos (keywordEach [] X.env)).all (fun x => x.1.isSome) && decide ((e :: []).length + ([] : List Keyword).length + (if ([] : List Keyword).isEmpty then 0 else 1) < 30)) = true := by rfl)
    (hline : (apos.endLine == cpos.line) = true := by rfl) (hplain : (backTo cpos (starEach [] X.env)).any (·.1) = false := by rfl) :
    PE X (.Call (.Attribute (.Name x px) "pop" apos) [e] [] cpos) (tE X.K J (mPopAt i f)) := by
  refine PE.by (pe_bm PySem.F.plainAttrs_list PySem.F.slot_list_pop PySem.F.type_list_pop mt_popAt (pv i hN hv hd hcd) (pa_cons he pa_nil hst) hbase hfew hline hst hplain) ?_
  rintro σ H Q ⟨G, ρ, R, h⟩
  obtain ⟨p0, h0, h⟩ := h.pur
  obtain ⟨a, vs, s0, H0, _⟩ := R.ownL (ownAt2_inv h0)
  refine ⟨.ref a, s0, tyV_lst H0, G, ρ, R, h.bnd fun p h y H1 R1 r1 => ?_⟩
  obtain ⟨p1, h2, h⟩ := h.pur
  have e1 := ownAt2_inv h2
  obtain ⟨a1, vs1, s1, hH, hr⟩ := R1.ownL e1
  rw [s0] at s1
  cases s1
  obtain ⟨d, ρ1⟩ := p
  cases d with
  | int k =>
    dsimp only at h
    split at h
    · rename_i hk
      split at h
      · rename_i j ej
        split at h
        · rename_i w ew
          obtain ⟨wv, q1, q2⟩ := hr.getD ew
          refine ⟨a, vs1, k, j, wv, rfl, by rw [r1.int_inv], hH, by omega, by omega, by rw [hr.len]; exact ixN_seq ej, q1, fun kf => ?_⟩
          have R2 := R1.write e1 s0 kf (.lst (hr.eraseIdx j))
          refine h _ _ R2 (q2.mono (fun b z => ?_) fun c o n ec => ?_)
          · rcases z with z | ⟨i2, b2, ys2, g1, g2⟩
            · exact .inl z
            · refine .inr ⟨i2, ?_⟩
              rcases set_get g1 with ⟨rfl, _⟩ | ⟨ne, g1⟩
              · exact ⟨_, _, e1, g2⟩
              · exact ⟨_, _, g1, g2⟩
          · rw [upd_ne fun q => n (.inr ⟨i, _, _, e1, by rw [q]; exact s0⟩)]
            exact ec
        · exact h.elim
      · exact h.elim
    · exact h.elim
  | _ => exact h.elim
end
end L2.DL

namespace L2.DL
open PySem PySem.Spec PyProof.Rows

/-! ## what is walked -/
structure Ext (G G' : Gh) : Prop where
  m : G'.M = G.M
  b : G'.B = G.B
  fx : ∀ a o, G.fx a o → G'.fx a o
  hd : ∀ v d, G.hd v d → G'.hd v d
theorem Ext.refl (G : Gh) : Ext G G := ⟨rfl, rfl, fun _ _ h => h, fun _ _ h => h⟩
theorem Ext.hold (G : Gh) (v : V) (d : D) : Ext G (G.hold v d) := ⟨rfl, rfl, fun _ _ h => h, fun _ _ h => .inl h⟩
theorem Ext.trans {G G' G'' : Gh} (e : Ext G G') (f : Ext G' G'') : Ext G G'' := ⟨f.m.trans e.m, f.b.trans e.b, fun a o h => f.fx a o (e.fx a o h), fun v d h => f.hd v d (e.hd v d h)⟩
section
variable {K : PySem.W.Frag} {J : Jx} {G G' : Gh} {ρ : DEnv} {σ : St} {H : Hp}
theorem Ext.mm (e : Ext G G') : MM G' ρ σ = MM G ρ σ := by unfold MM; rw [e.m]
theorem Ext.mb (e : Ext G G') : MB G' ρ σ = MB G ρ σ := by unfold MB; rw [e.m]
theorem Rel.ext (R : Rel K J G' ρ σ H) (e : Ext G G') : Rel K J G ρ σ H :=
  ⟨R.len, R.kf, fun a z => R.dom a (by rw [e.m]; exact z), fun i d h => by rw [← e.mm]; exact R.dat i d h, fun i b xs h => by
    obtain ⟨a, vs, h1, h2, h3, h4, h5, h6⟩ := R.own i b xs h
    exact ⟨a, vs, h1, h2, by rw [← e.mm]; exact h3, by rw [← e.m]; exact h4, by rw [← e.b]; exact h5, fun o z => h6 o (e.fx a o z)⟩, R.sep, fun v d h => by rw [← e.mm]; exact R.held v d (e.hd v d h), fun a o h => R.keep a o (e.fx a o h), fun i c fs h => by rw [← e.mm]; exact R.exn i c fs h, R.raw, J.kn.fx R.kn (fun a z => by rw [e.m]; exact z) fun a o z => .inl (e.fx a o z)⟩
theorem wE.ext (e : Ext G G') {c : Str} {fs : List (Str × D)} (h : wE K J G σ c fs ρ) : wE K J G' σ c fs ρ := fun cls d H' R z => h cls d H' (R.ext e) (by rw [← e.mm]; exact z)
theorem wS.ext (e : Ext G G') {c : Str} {fs : List (Str × D)} (h : wS K J G c fs ρ) : wS K J G' c fs ρ := fun σ' cls d H' R z => h σ' cls d H' (R.ext e) (by rw [← e.mm]; exact z)
end
/-- W yields the data ds, as long as what is held stands -/
def Yields (K : PySem.W.Frag) (hd : V → D → Prop) (W : It) (ds : List D) : Prop := ∀ (M : Addr → Prop) (H : Hp), (∀ v d, hd v d → Rp K M H v d) → (∀ i, i < ds.length → W.go i H) ∧ W.stop ds.length H ∧
  ∀ i x H', i < ds.length → W.yld i H x H' → Same H H' ∧ ∃ d, ds[i]? = some d ∧ ((∀ a, M a → H a ≠ none) → Rp K M H' x d)
def tI (K : PySem.W.Frag) (J : Jx) (f : EvA) : TI := fun σ H R => ∃ G ρ, Rel K J G ρ σ H ∧ Out (wE K J G σ) (f ρ) fun p => ∀ G' W H', Rel K J G' p.2 σ H' → Ext G G' → Yields K G'.hd W p.1 → R W H'

def forL (g : EvG) (b : EvS) : List D → DEnv → Res (Ctl × DEnv)
  | [], ρ => .ok (.nx, ρ)
  | d :: ds, ρ => bnd (pur (g d ρ)) fun ρ1 => bnd (b ρ1) fun p => match p.1 with
    | .nx => forL g b ds p.2
    | .ct => forL g b ds p.2
    | .bk => .ok (.nx, p.2)
    | .rt d => .ok (.rt d, p.2)
def mFor (f : EvA) (g : EvG) (b : EvS) : EvS := fun ρ => bnd (f ρ) fun p => forL g b p.1 p.2
section
variable {X : Cx} {J : Jx} {tg iter : Expr} {body : List Stmt} {pos : Pos} {f : EvA} {g : EvG} {b : EvS} {ix : List Nat}
theorem wantS.ext {K : PySem.W.Frag} {E : Ends} {G G' : Gh} {c : Ctl} {ρ : DEnv} (h : wantS K J E G c ρ) (e : Ext G G') : wantS K J E G' c ρ := by
  cases c with
  | nx => exact fun σ' H' R => h σ' H' (R.ext e)
  | bk => exact fun σ' H' R => h σ' H' (R.ext e)
  | ct => exact fun σ' H' R => h σ' H' (R.ext e)
  | rt d => exact fun σ' v H' R r => h σ' v H' (R.ext e) (by rw [← e.mb]; exact r)
theorem ds_for (hp : PassesOwn (model X.prog X.w) X.A X.env X.xe) (hc : X.calm = true) (hi : PI X tg iter (tI X.K J f)) (hg : PG X tg (tG X.K J ix g)) (hb : PSs X body (tS X.K J b))
    (hs : ∀ x, foldedSetIterable iter X.env x = pure x := by intro _; rfl) : PS X (.For tg iter body [] pos) (tS X.K J (mFor f g b)) := by
  refine PS.by (ps_for hp hc hi (PG.pre hg) hb hs) ?_
  rintro E σ H ⟨G, ρ, R, h⟩
  refine ⟨G, ρ, R, h.e.bndI fun p hp1 h0 G' W H1 R1 ex Y => ?_⟩
  obtain ⟨ds, ρ1⟩ := p
  have h2 : Out (wS X.K J G) (forL g b ds ρ1) fun p => wantS X.K J E G p.1 p.2 := by
    have q := h
    unfold mFor at q
    rw [hp1] at q
    exact q
  replace h2 : Out (wS X.K J G') (forL g b ds ρ1) fun p => wantS X.K J E G' p.1 p.2 := h2.imp (fun _ _ _ z => z.ext ex) fun _ z => z.ext ex
  refine ⟨fun i m σ H => m = ds.length - i ∧ i ≤ ds.length ∧ ∃ ρi, Rel X.K J G' ρi σ H ∧ Out (wS X.K J G') (forL g b (ds.drop i) ρi) fun p => wantS X.K J E G' p.1 p.2, ⟨_, rfl, Nat.zero_le _, ρ1, R1, h2⟩, ?_⟩
  rintro i m σ2 H2 ⟨rfl, hi, ρi, Ri, hl⟩
  obtain ⟨Y1, Y2, Y3⟩ := Y _ H2 Ri.held
  by_cases hlt : i < ds.length
  · refine .inr ⟨Y1 i hlt, fun σ' H' => ∃ ρ2, Rel X.K J G' ρ2 σ' H' ∧ Out (wS X.K J G') (forL g b (ds.drop (i + 1)) ρ2) fun p => wantS X.K J E G' p.1 p.2, fun σ' H' ⟨ρ2, R2, h2⟩ => ⟨ds.length - (i + 1), by omega, rfl, hlt, ρ2, R2, h2⟩, fun x H3 y kf => ?_⟩
    obtain ⟨sm, d, hd, r⟩ := Y3 i x H3 hlt y
    rw [List.drop_eq_getElem_cons hlt] at hl
    have ed : ds[i] = d := by rw [List.getElem?_eq_getElem hlt] at hd; exact Option.some.inj hd
    rw [ed] at hl
    obtain ⟨ρ3, h3, hl⟩ := Out.pur (by rw [forL] at hl; exact hl)
    refine ⟨G', ρi, d, ρ3, Ri.same kf sm, r Ri.domM, h3, fun σ4 R4 _ _ => ⟨G', ρ3, R4, hl.bnd fun p hl => ?_⟩⟩
    obtain ⟨c4, ρ4⟩ := p
    cases c4 with
    | nx => exact fun σ5 H5 R5 => ⟨ρ4, R5, hl⟩
    | ct => exact fun σ5 H5 R5 => ⟨ρ4, R5, hl⟩
    | bk => exact fun σ5 H5 R5 _ => hl σ5 H5 R5
    | rt e => exact fun σ5 v H5 R5 r5 _ => hl σ5 v H5 R5 r5
  · have ei : i = ds.length := by omega
    subst ei
    rw [List.drop_length] at hl
    exact .inl ⟨Y2, fun kf => hl _ _ Ri⟩

/-! ## while -/
def whileL (c : EvF) (b : EvS) : Nat → DEnv → Res (Ctl × DEnv)
  | 0, _ => stuck
  | n + 1, ρ => bnd (c ρ) fun p => match p.1 with
    | .bool true => bnd (b p.2) fun q => match q.1 with
      | .nx => whileL c b n q.2
      | .ct => whileL c b n q.2
      | .bk => .ok (.nx, q.2)
      | .rt d => .ok (.rt d, q.2)
    | .bool false => .ok (.nx, p.2)
    | _ => stuck
/-- the value of a while that ends, at whatever bound of its turns -/
noncomputable def mWhile (c : EvF) (b : EvS) : EvS := fun ρ => open Classical in if h : ∃ r n, whileL c b n ρ = r ∧ r ≠ stuck then h.choose else stuck
theorem whileL_more {c : EvF} {b : EvS} : ∀ (n : Nat) {ρ : DEnv} {r : Res (Ctl × DEnv)}, whileL c b n ρ = r → r ≠ stuck → ∀ m, n ≤ m → whileL c b m ρ = r
  | 0, _, _, h, z, _, _ => absurd h.symm z
  | n + 1, ρ, r, h, z, 0, hm => by omega
  | n + 1, ρ, r, h, z, m + 1, hm => by
    rw [whileL] at h ⊢
    cases h1 : c ρ with
    | error e => rw [h1] at h; exact h
    | ok p =>
      obtain ⟨d, ρ1⟩ := p
      rw [h1] at h
      cases d with
      | bool k =>
        cases k with
        | true =>
          simp only [bnd_ok] at h ⊢
          cases h2 : b ρ1 with
          | error e => rw [h2] at h; exact h
          | ok q =>
            obtain ⟨c2, ρ2⟩ := q
            rw [h2] at h
            cases c2 with
            | nx => exact whileL_more n h z m (by omega)
            | ct => exact whileL_more n h z m (by omega)
            | bk => exact h
            | rt e => exact h
        | false => exact h
      | _ => exact h
theorem mWhile_eqE {c : EvF} {b : EvS} {n : Nat} {ρ : DEnv} {r : Res (Ctl × DEnv)} (h : whileL c b n ρ = r) (z : r ≠ stuck) : mWhile c b ρ = r := by
  have hx : ∃ r n, whileL c b n ρ = r ∧ r ≠ stuck := ⟨r, n, h, z⟩
  unfold mWhile
  rw [dif_pos hx]
  obtain ⟨m, hm, z2⟩ := hx.choose_spec
  have a1 := whileL_more n h z (max n m) (Nat.le_max_left _ _)
  have a2 := whileL_more m hm z2 (max n m) (Nat.le_max_right _ _)
  rw [a1] at a2
  exact a2.symm
theorem mWhile_eq {c : EvF} {b : EvS} {n : Nat} {ρ : DEnv} {r : Ctl × DEnv} (h : whileL c b n ρ = .ok r) : mWhile c b ρ = .ok r := mWhile_eqE h (fun z => nomatch z)
theorem mWhile_inv {c : EvF} {b : EvS} {ρ : DEnv} {r : Res (Ctl × DEnv)} (h : mWhile c b ρ = r) (z : r ≠ stuck) : ∃ n, whileL c b n ρ = r := by
  unfold mWhile at h
  split at h
  · rename_i hx
    obtain ⟨m, hm, _⟩ := hx.choose_spec
    rw [h] at hm
    exact ⟨m, hm⟩
  · exact absurd h.symm z
theorem Out.ne {α : Type} {w : Wx} {x : Res α} {k : α → Prop} (h : Out w x k) : x ≠ stuck := fun e => by
  rw [e] at h
  exact h
theorem ds_while {c : Expr} {fc : EvF} (hp : PassesOwn (model X.prog X.w) X.A X.env X.xe) (hc : PT X c (tTs X.K J fc)) (hb : PSs X body (tS X.K J b)) : PS X (.While c body [] pos) (tS X.K J (mWhile fc b)) := by
  refine PS.imp (ps_while hp hc hb) ?_
  rintro E σ H ⟨G, ρ, R, h⟩
  obtain ⟨n, hn⟩ := mWhile_inv rfl h.ne
  rw [← hn] at h
  refine ⟨fun m σ H => ∃ ρm, Rel X.K J G ρm σ H ∧ Out (wS X.K J G) (whileL fc b m ρm) fun p => wantS X.K J E G p.1 p.2, ⟨n, ρ, R, h⟩, ?_⟩
  rintro m σ1 H1 ⟨ρ1, R1, h⟩
  cases m with
  | zero => exact h.elim
  | succ m =>
    rw [whileL] at h
    refine ⟨G, ρ1, R1, Out.e (h.bnd fun p h => ?_)⟩
    obtain ⟨d, ρ2⟩ := p
    cases d with
    | bool k =>
      refine ⟨k, rfl, fun H2 R2 => ?_⟩
      cases k with
      | true =>
        rw [if_pos rfl]
        refine ⟨fun σ' H' => ∃ ρm, Rel X.K J G ρm σ' H' ∧ Out (wS X.K J G) (whileL fc b m ρm) fun p => wantS X.K J E G p.1 p.2, fun σ' H' z => ⟨m, Nat.lt_succ_self _, z⟩, G, ρ2, R2, Out.bnd h fun q h => ?_⟩
        obtain ⟨c3, ρ3⟩ := q
        cases c3 with
        | nx => exact fun σ' H' R' => ⟨ρ3, R', h⟩
        | ct => exact fun σ' H' R' => ⟨ρ3, R', h⟩
        | bk => exact h
        | rt e => exact h
      | false =>
        rw [if_neg Bool.false_ne_true]
        exact h _ _ R2
    | _ => exact h.elim

/-! ## iterables -/
variable {e : Expr} {fe : EvF} {fs : EvA}
def iSq (K : PySem.W.Frag) (te : TE) : TI := fun σ H R => te σ H fun x H1 => ∃ a, x = .ref a ∧ (((∃ xs, SqL K H1 a xs) ∧ R (Itl K a) H1) ∨ ((∃ xs, SqT K H1 a xs) ∧ R (Itt K a) H1))
theorem pi_sq {te : TE} (hl : PE X e te) : PI X tg e (iSq X.K te) := by
  refine ⟨fun pins s σ H R I h => ?_⟩
  refine thn (hl.run pins s σ H _ I h) fun v s1 ⟨x, H1, I1, r1, q1⟩ => ?_
  obtain ⟨a, e, h1 | h1⟩ := q1
  · obtain ⟨⟨xs, hq⟩, q⟩ := h1
    subst e
    cases r1
    obtain ⟨its, rv, p, hz⟩ := I1.list hq
    refine wpAny_pyIter_list p.isList ?_
    refine ⟨s1.heap.objs.size, [s1.heap.objs.size], _, _, H1, rfl, I1.kept (t' := s1.toks) fun b o e => Heap.get?_push_of_some _ e, turn_list a _, ⟨_, Heap.get?_push_size _ rfl, rfl, rfl⟩, fun b hb => ?_, q⟩
    have e : b = s1.heap.objs.size := by simpa using hb
    subst e
    exact I1.fpOk (Nat.le_refl _) (I1.hok.fresh (Nat.le_refl _))
  · obtain ⟨⟨xs, hq⟩, q⟩ := h1
    subst e
    cases r1
    obtain ⟨its, rv, p, hz⟩ := I1.tuple hq
    refine wpAny_pyIter_tuple (show s1.heap.IsTuple a its.toArray from p) ?_
    refine ⟨s1.heap.objs.size, [s1.heap.objs.size], _, _, H1, rfl, I1.kept (t' := s1.toks) fun b o e => Heap.get?_push_of_some _ e, turn_tuple a _, ⟨_, Heap.get?_push_size _ rfl, rfl, rfl⟩, fun b hb => ?_, q⟩
    have e : b = s1.heap.objs.size := by simpa using hb
    subst e
    exact I1.fpOk (Nat.le_refl _) (I1.hok.fresh (Nat.le_refl _))
def mSeqI (f : EvF) : EvA := fun ρ => bnd (f ρ) fun p => bnd (pur (seqD p.1)) fun z => .ok (z.2, p.2)
theorem PI.pre {t : TI} (h : PI X tg iter t) : PI X tg iter (fun σ H R => KF X.K H → t σ H R) := ⟨fun pins s σ H R I hq => h.run pins s σ H R I (hq (kf_of I))⟩
theorem PI.imp {t t' : TI} (h : PI X tg iter t) (hh : ∀ σ H R, t' σ H R → t σ H R) : PI X tg iter t' := ⟨fun pins s σ H R I hq => h.run pins s σ H R I (hh σ H R hq)⟩
theorem yields_list {K : PySem.W.Frag} {G : Gh} {a : Addr} {xs : List D} : Yields K (G.hold (.ref a) (.list xs)).hd (Itl K a) xs := by
  intro M H hh
  obtain ⟨a', vs, e, n, q, r⟩ := (hh _ _ (.inr ⟨rfl, rfl⟩)).list_inv
  cases e
  have w := walk_list (K := K) (a := a) (xs := vs)
  refine ⟨fun i hi => w.goes i H (by rw [r.len]; exact hi) q, ?_, fun i x H' hi y => ?_⟩
  · have := w.stops H q
    rw [r.len] at this
    exact this
  · obtain ⟨rfl, hx⟩ := w.yields i H x H' (by rw [r.len]; exact hi) q y
    obtain ⟨d, h1, h2⟩ := r.get hx
    exact ⟨Same.refl _, d, h1, fun _ => h2⟩
theorem yields_tup {K : PySem.W.Frag} {G : Gh} {a : Addr} {xs : List D} : Yields K (G.hold (.ref a) (.tuple xs)).hd (Itt K a) xs := by
  intro M H hh
  obtain ⟨a', vs, e, n, q, r⟩ := (hh _ _ (.inr ⟨rfl, rfl⟩)).tup_inv
  cases e
  have w := walk_tup (K := K) (a := a) (xs := vs)
  refine ⟨fun i hi => w.goes i H (by rw [r.len]; exact hi) q, ?_, fun i x H' hi y => ?_⟩
  · have := w.stops H q
    rw [r.len] at this
    exact this
  · obtain ⟨rfl, hx⟩ := w.yields i H x H' (by rw [r.len]; exact hi) q y
    obtain ⟨d, h1, h2⟩ := r.get hx
    exact ⟨Same.refl _, d, h1, fun _ => h2⟩
theorem di_seq (he : PE X e (tE X.K J fe)) : PI X tg e (tI X.K J (mSeqI fe)) := by
  refine PI.imp (pi_sq he) ?_
  rintro σ H Rr ⟨G, ρ, R, h⟩
  refine ⟨G, ρ, R, h.bnd fun p h x H1 R1 r1 => ?_⟩
  obtain ⟨z, h2, h⟩ := h.pur
  obtain ⟨d, ρ1⟩ := p
  cases d with
  | list xs =>
    cases h2
    obtain ⟨a, vs, e, n, q, r⟩ := r1.list_inv
    subst e
    exact ⟨a, rfl, .inl ⟨⟨vs, q⟩, h _ _ _ (R1.hold r1) (Ext.hold _ _ _) yields_list⟩⟩
  | tuple xs =>
    cases h2
    obtain ⟨a, vs, e, n, q, r⟩ := r1.tup_inv
    subst e
    exact ⟨a, rfl, .inr ⟨⟨vs, q⟩, h _ _ _ (R1.hold r1) (Ext.hold _ _ _) yields_tup⟩⟩
  | _ => cases h2
/-- range -/
def rngD (lo : Int) (n : Nat) : List D := (List.range n).map fun (i : Nat) => PyData.int (lo + (i : Int))
theorem yields_rng {K : PySem.W.Frag} {hd : V → D → Prop} {lo : Int} {n : Nat} : Yields K hd (Itr lo n) (rngD lo n) := by
  intro M H _
  have hl : (rngD lo n).length = n := by unfold rngD; rw [List.length_map, List.length_range]
  have w := walk_range (lo := lo) (n := n)
  rw [hl]
  refine ⟨fun i hi => w.goes i H hi trivial, w.stops H trivial, fun i x H' hi y => ?_⟩
  obtain ⟨rfl, rfl⟩ := w.yields i H x H' hi trivial y
  refine ⟨Same.refl _, .int (lo + i), ?_, fun _ => .int _⟩
  unfold rngD
  rw [List.getElem?_map, List.getElem?_range hi]
  rfl
def rgOk (i : Int) : Bool := decide (-1000000000 ≤ i ∧ i ≤ 1000000000)
def rng1 : D → Res (List D)
  | .int n => if rgOk n then .ok (rngD 0 n.toNat) else stuck
  | _ => stuck
def rng2 : D → D → Res (List D)
  | .int a, .int b => if rgOk a && rgOk b then .ok (rngD a (b - a).toNat) else stuck
  | _, _ => stuck
def mRng1 (fa : EvF) : EvA := fun ρ => bnd (fa ρ) fun p => bnd (pur (rng1 p.1)) fun z => .ok (z, p.2)
def mRng2 (fa fb : EvF) : EvA := fun ρ => bnd (fa ρ) fun p => bnd (fb p.2) fun q => bnd (pur (rng2 p.1 q.1)) fun z => .ok (z, q.2)
variable {a c : Expr} {p : Pos} {fa fb : EvF}
theorem di_range1 (hm : X.mg "range" = none) (ha : PE X a (tE X.K J fa)) (hg : Gl X "range" := by rfl) (hs : starEach [a] X.env = [(false, eval a X.env)] := by rfl) (hs1 : starEach (a :: []) X.env = (false, eval a X.env) :: starEach [] X.env := by rfl) : PI X tg (.Call (.Name "range" p) [a] [] pos) (tI X.K J (mRng1 fa)) := by
  refine PI.imp (pi_range1 hg hm (pa_cons ha pa_nil hs1) hs) ?_
  rintro σ H Rr ⟨G, ρ, R, h⟩
  refine ⟨G, ρ, R, h.bnd fun p h x H1 R1 r1 => ?_⟩
  obtain ⟨z, h2, h⟩ := h.pur
  obtain ⟨d, ρ1⟩ := p
  cases d with
  | int n =>
    obtain ⟨hn, e⟩ := ite_ok h2
    subst e
    have hn := of_decide_eq_true hn
    exact ⟨n, by rw [r1.int_inv], by omega, by omega, h _ _ _ R1 (Ext.refl _) yields_rng⟩
  | _ => cases h2
theorem di_range2 (hm : X.mg "range" = none) (ha : PE X a (tE X.K J fa)) (hc : PE X c (tE X.K J fb)) (hg : Gl X "range" := by rfl) (hs : starEach [a, c] X.env = [(false, eval a X.env), (false, eval c X.env)] := by rfl) (hs2 : starEach [c] X.env = [(false, eval c X.env)] := by rfl)
    (hs1 : starEach (a :: [c]) X.env = (false, eval a X.env) :: starEach [c] X.env := by rfl) (hs3 : starEach (c :: []) X.env = (false, eval c X.env) :: starEach [] X.env := by rfl) : PI X tg (.Call (.Name "range" p) [a, c] [] pos) (tI X.K J (mRng2 fa fb)) := by
  refine PI.imp (pi_range2 hg hm (pa_cons ha (pa_cons hc pa_nil hs3) hs1) hs hs2) ?_
  rintro σ H Rr ⟨G, ρ, R, h⟩
  refine ⟨G, ρ, R, h.bnd fun p h x H1 R1 r1 => ⟨G, p.2, R1, h.bnd fun q h y H2 R2 r2 => ?_⟩⟩
  obtain ⟨z, h3, h⟩ := h.pur
  obtain ⟨d, ρ1⟩ := p
  obtain ⟨d2, ρ2⟩ := q
  cases d with
  | int n =>
    cases d2 with
    | int m =>
      obtain ⟨hn, e⟩ := ite_ok h3
      subst e
      rw [Bool.and_eq_true] at hn
      have h1 := of_decide_eq_true hn.1
      have h2 := of_decide_eq_true hn.2
      exact ⟨n, m, by rw [r1.int_inv, r2.int_inv], by omega, h _ _ _ R2 (Ext.refl _) yields_rng⟩
    | _ => cases h3
  | _ => cases h3
end
end L2.DL

namespace L2.DL
open PySem PySem.Spec PyProof.Rows

/-! ## list comprehensions -/
def wipeD (ρ : DEnv) : List Nat → DEnv
  | [] => ρ
  | v :: vs => (wipeD ρ vs).set v none
def restD (ρe ρ0 : DEnv) : List Nat → DEnv
  | [] => ρe
  | v :: vs => match ρ0[v]? with
    | some s => (restD ρe ρ0 vs).set v s
    | none => restD ρe ρ0 vs
def noOwn (ρ : DEnv) (vs : List Nat) : Bool := vs.all fun i => match ρ[i]? with | some (some (Sl.dat _)) => true | some (some _) => false | _ => true
def compL (g : EvG) (tt e : EvF) (vs : List Nat) : List D → DEnv → Res (List D × DEnv)
  | [], ρ => .ok ([], ρ)
  | d :: ds, ρ => bnd (pur (g d ρ)) fun ρ1 => bnd (tt ρ1) fun q => match q.1 with
    | .bool true => bnd (e q.2) fun r => bnd (compL g tt e vs ds (wipeD r.2 vs)) fun z => .ok (r.1 :: z.1, z.2)
    | .bool false => compL g tt e vs ds (wipeD q.2 vs)
    | _ => stuck
def mComp (f : EvA) (vs : List Nat) (g : EvG) (tt e : EvF) : EvA := fun ρ => bnd (f ρ) fun p => if p.1.length ≤ lim ∧ noOwn p.2 vs = true then
  bnd (pur (compL g tt e vs p.1 (wipeD p.2 vs))) fun z => .ok (z.1, restD z.2 p.2 vs) else stuck

theorem wipe_out {σ : St} {j : Nat} : ∀ {vs : List Nat}, j ∉ vs → (wipe σ vs)[j]? = σ[j]?
  | [], _ => rfl
  | v :: vs, h => by
    unfold wipe
    rw [List.getElem?_set_ne (fun e => h (by rw [e]; exact List.mem_cons_self))]
    exact wipe_out fun z => h (List.mem_cons_of_mem _ z)
theorem wipeD_some {ρ : DEnv} {j : Nat} {x : Sl} : ∀ {vs : List Nat}, (wipeD ρ vs)[j]? = some (some x) → ρ[j]? = some (some x)
  | [], h => h
  | v :: vs, h => by
    unfold wipeD at h
    rcases set_get h with ⟨_, e⟩ | ⟨_, e⟩
    · cases e
    · exact wipeD_some e
theorem wipe_in {σ : St} {j : Nat} {v : V} : ∀ {vs : List Nat}, j ∈ vs → (wipe σ vs)[j]? ≠ some (some v) := fun {vs} h e => (wipe_some e).2 h
theorem wipe_wipe {σ : St} : ∀ {vs : List Nat}, wipe (wipe σ vs) vs = wipe σ vs := by
  intro vs
  refine List.ext_getElem? fun j => ?_
  by_cases h : j ∈ vs
  · have key : ∀ τ : St, j < τ.length → (wipe τ vs)[j]? = some none := fun τ hj => by
      cases e : (wipe τ vs)[j]? with
      | none => rw [List.getElem?_eq_none_iff, wipe_length] at e; omega
      | some o =>
        cases o with
        | none => rfl
        | some v => exact absurd e (wipe_in h)
    by_cases hj : j < σ.length
    · rw [key _ hj, key _ (by rw [wipe_length]; exact hj)]
    · rw [List.getElem?_eq_none (by rw [wipe_length, wipe_length]; omega), List.getElem?_eq_none (by rw [wipe_length]; omega)]
  · rw [wipe_out h]
theorem rest_len {ρe ρ0 : DEnv} : ∀ {vs : List Nat}, (restD ρe ρ0 vs).length = ρe.length
  | [] => rfl
  | v :: vs => by
    unfold restD
    split
    · rw [List.length_set, rest_len]
    · exact rest_len
theorem rest_out {ρe ρ0 : DEnv} {j : Nat} : ∀ {vs : List Nat}, j ∉ vs → (restD ρe ρ0 vs)[j]? = ρe[j]?
  | [], _ => rfl
  | v :: vs, h => by
    unfold restD
    have ih := rest_out (ρe := ρe) (ρ0 := ρ0) (j := j) (vs := vs) fun z => h (List.mem_cons_of_mem _ z)
    split
    · rw [List.getElem?_set_ne (fun e => h (by rw [e]; exact List.mem_cons_self))]
      exact ih
    · exact ih
theorem rest_in {ρe ρ0 : DEnv} {j : Nat} (hl : ρe.length = ρ0.length) : ∀ {vs : List Nat}, j ∈ vs → (restD ρe ρ0 vs)[j]? = ρ0[j]?
  | [], h => by cases h
  | v :: vs, h => by
    unfold restD
    by_cases e : v = j
    · subst e
      split
      · rename_i s es
        have hlt : v < ρ0.length := (List.getElem?_eq_some_iff.mp es).1
        rw [List.getElem?_set_self (by rw [rest_len, hl]; exact hlt), es]
      · rename_i es
        rw [es, List.getElem?_eq_none (by rw [rest_len, hl]; exact List.getElem?_eq_none_iff.mp es)]
    · have ih := rest_in (ρe := ρe) (j := j) hl (vs := vs) ((List.mem_cons.mp h).resolve_left fun z => e z.symm)
      split
      · rw [List.getElem?_set_ne e]
        exact ih
      · exact ih
section
variable {K : PySem.W.Frag} {J : Jx} {G : Gh} {ρ : DEnv} {σ : St} {H : Hp}
theorem Rel.bot (R : Rel K J G ρ σ H) : Rel K J.bot G ρ σ H := ⟨R.len, R.kf, R.dom, R.dat, R.own, R.sep, R.held, R.keep, R.exn, R.raw, R.kn⟩
theorem Rel.unbot (R : Rel K J.bot G ρ σ H) : Rel K J G ρ σ H := ⟨R.len, R.kf, R.dom, R.dat, R.own, R.sep, R.held, R.keep, R.exn, R.raw, R.kn⟩
theorem Rel.wipe (R : Rel K J G ρ σ H) : ∀ vs : List Nat, Rel K J G (wipeD ρ vs) (wipe σ vs) H
  | [] => R
  | _ :: vs => (R.wipe vs).clear
/-- the slots' data is held -/
def Gh.slots (G : Gh) (ρ : DEnv) (σ : St) : Gh := { G with hd := fun v d => G.hd v d ∨ ∃ j : Nat, ρ[j]? = some (some (Sl.dat d)) ∧ σ[j]? = some (some v) }
theorem Rel.slots (R : Rel K J G ρ σ H) : Rel K J (G.slots ρ σ) ρ σ H :=
  ⟨R.len, R.kf, R.dom, R.dat, R.own, R.sep, fun v d h => by
    rcases h with h | ⟨j, h1, h2⟩
    · exact R.held v d h
    · obtain ⟨v', e, r⟩ := R.dat j d h1
      rw [h2] at e
      cases e
      exact r, R.keep, R.exn, R.raw, R.kn⟩
theorem Rel.unslots {ρ0 : DEnv} {σ0 : St} (R : Rel K J (G.slots ρ0 σ0) ρ σ H) : Rel K J G ρ σ H := ⟨R.len, R.kf, R.dom, R.dat, R.own, R.sep, fun v d h => R.held v d (.inl h), R.keep, R.exn, R.raw, R.kn⟩
/-- a list under construction, its items so far -/
def Gh.lock (G : Gh) (p : Addr) (acc : List V) (ds : List D) : Gh := { G with fx := fun a o => G.fx a o ∨ (a = p ∧ o = .lst acc), hd := fun v d => G.hd v d ∨ ∃ j : Nat, acc[j]? = some v ∧ ds[j]? = some d }
variable {p : Addr} {acc : List V} {ds : List D}
theorem Rel.lock (R : Rel K J G ρ σ H) (hp : G.M p) (h : H p = some (.lst acc)) (r : RpA K (MM G ρ σ) H acc ds) : Rel K J (G.lock p acc ds) ρ σ H :=
  ⟨R.len, R.kf, R.dom, R.dat, fun i b xs e => by
    obtain ⟨a, vs, h1, h2, h3, h4, h5, h6⟩ := R.own i b xs e
    exact ⟨a, vs, h1, h2, h3, h4, h5, fun o z => z.elim (h6 o) fun ⟨q, _⟩ => h4 (by rw [q]; exact hp)⟩, R.sep, fun v d z => by
    rcases z with z | ⟨j, h1, h2⟩
    · exact R.held v d z
    · obtain ⟨d', e, q⟩ := r.get h1
      rw [h2] at e
      cases e
      exact q, fun a o z => by
    rcases z with z | ⟨rfl, rfl⟩
    · exact R.keep a o z
    · exact h, R.exn, R.raw, J.kn.fx R.kn (fun _ z => z) fun a o z => z.imp id fun ⟨_, e⟩ => by rw [e]; rfl⟩
theorem rpA_of {M : Addr → Prop} : ∀ {vs : List V} {ds : List D}, vs.length = ds.length → (∀ (j : Nat) (v : V) (d : D), vs[j]? = some v → ds[j]? = some d → Rp K M H v d) → RpA K M H vs ds
  | [], [], _, _ => .nil
  | [], _ :: _, h, _ => by cases h
  | _ :: _, [], h, _ => by cases h
  | v :: vs, d :: ds, h, q => .cons (q 0 v d rfl rfl) (rpA_of (by simpa using h) fun j x y h1 h2 => q (j + 1) x y (by simpa using h1) (by simpa using h2))
theorem Rel.unlock (R : Rel K J (G.lock p acc ds) ρ σ H) (hl : acc.length = ds.length) : Rel K J G ρ σ H ∧ H p = some (.lst acc) ∧ RpA K (MM G ρ σ) H acc ds :=
  ⟨⟨R.len, R.kf, R.dom, R.dat, fun i b xs e => by
    obtain ⟨a, vs, h1, h2, h3, h4, h5, h6⟩ := R.own i b xs e
    exact ⟨a, vs, h1, h2, h3, h4, h5, fun o z => h6 o (.inl z)⟩, R.sep, fun v d z => R.held v d (.inl z), fun a o z => R.keep a o (.inl z), R.exn, R.raw, J.kn.fx R.kn (fun _ z => z) fun a o z => .inl (.inl z)⟩, R.keep p _ (.inr ⟨rfl, rfl⟩),
    rpA_of hl fun j v d h1 h2 => R.held v d (.inr ⟨j, h1, h2⟩)⟩
/-- an address that all keeps away from is written -/
theorem Rel.updM (R : Rel K J G ρ σ H) {o u0 : HO} (hp : G.M p) (hf : ∀ o, ¬ G.fx p o) (kf : KF K (upd H p o)) (h0 : H p = some u0) (pl : plainO u0 = true) (pl' : plainO o = true := by rfl) : Rel K J G ρ σ (upd H p o) := by
  have kp : Keeps (MM G ρ σ) H (upd H p o) := fun a u n e => by rw [upd_ne fun z => n (by rw [z]; exact .inl hp)]; exact e
  refine ⟨R.len, kf, fun a z e => ?_, fun i d h => ?_, fun i b xs h => ?_, R.sep, fun v d h => (R.held v d h).mono (fun _ z => z) kp, fun a u z => ?_, fun i c fs h => ?_, R.raw, ?_⟩
  · by_cases q : a = p
    · subst q; rw [upd_same] at e; cases e
    · rw [upd_ne q] at e; exact R.dom a z e
  · obtain ⟨v, h1, h2⟩ := R.dat i d h
    exact ⟨v, h1, h2.mono (fun _ z => z) kp⟩
  · obtain ⟨a, vs, h1, h2, h3, h4, h5⟩ := R.own i b xs h
    exact ⟨a, vs, h1, by rw [upd_ne fun z => h4 (by rw [z]; exact hp)]; exact h2, h3.mono (fun _ z => z) kp, h4, h5⟩
  · rw [upd_ne fun q => hf u (by rw [← q]; exact z)]
    exact R.keep a u z
  · obtain ⟨a, cls, d, h1, h2, h3⟩ := R.exn i c fs h
    exact ⟨a, cls, d, h1, h2, h3.mono (fun _ z => z) kp⟩
  · exact J.kn.wr R.kn h0 pl pl'
theorem kf_upd {o : HO} (kf : KF K H) (h : K.lookup p = none) : KF K (upd H p o) := fun a u e => by
  rw [upd_ne fun z => by rw [z, h] at e; cases e]
  exact kf a u e
/-- the outer slots again -/
theorem Rel.rest {ρ1 ρe : DEnv} {vs : List Nat} {H1 : Hp} (R1 : Rel K J G ρ1 σ H1) (hno : noOwn ρ1 vs = true) (R : Rel K J ((G.slots ρ1 σ).add p) ρe (L2.wipe σ vs) H) : Rel K J (G.add p) (restD ρe ρ1 vs) σ H := by
  have hl : ρe.length = ρ1.length := by rw [R.len, wipe_length, R1.len]
  have nown : ∀ {j b xs}, j ∈ vs → ρ1[j]? ≠ some (some (Sl.ob b xs)) := fun {j b xs} hj e => by
    have := List.all_eq_true.mp hno j hj
    rw [e] at this
    cases this
  have nexn : ∀ {j c fs}, j ∈ vs → ρ1[j]? ≠ some (some (Sl.exn c fs)) := fun {j c fs} hj e => by
    have := List.all_eq_true.mp hno j hj
    rw [e] at this
    cases this
  have nraw : ∀ {j}, j ∈ vs → ρ1[j]? ≠ some (some Sl.raw) := fun {j} hj e => by
    have := List.all_eq_true.mp hno j hj
    rw [e] at this
    cases this
  have ow : ∀ {j a}, OwnAt (restD ρe ρ1 vs) σ j a → j ∉ vs ∧ OwnAt ρe (L2.wipe σ vs) j a := fun {j a} ⟨b, xs, h1, h2⟩ => by
    by_cases hj : j ∈ vs
    · rw [rest_in hl hj] at h1
      exact absurd h1 (nown hj)
    · rw [rest_out hj] at h1
      exact ⟨hj, b, xs, h1, by rw [wipe_out hj]; exact h2⟩
  have w : ∀ b, MM (G.add p) (restD ρe ρ1 vs) σ b → MM ((G.slots ρ1 σ).add p) ρe (L2.wipe σ vs) b := fun b z => z.imp id fun ⟨j, q⟩ => ⟨j, (ow q).2⟩
  refine ⟨by rw [rest_len, hl]; exact R1.len, R.kf, R.dom, fun j d h => ?_, fun j b xs h => ?_, fun i j a h1 h2 => R.sep i j a (ow h1).2 (ow h2).2, fun v d h => (R.held v d (.inl h)).weak w, R.keep, fun j c fs h => ?_, fun j h => ?_, R.kn⟩
  · by_cases hj : j ∈ vs
    · rw [rest_in hl hj] at h
      obtain ⟨v, e, _⟩ := R1.dat j d h
      exact ⟨v, e, (R.held v d (.inr ⟨j, h, e⟩)).weak w⟩
    · rw [rest_out hj] at h
      obtain ⟨v, e, r⟩ := R.dat j d h
      rw [wipe_out hj] at e
      exact ⟨v, e, r.weak w⟩
  · by_cases hj : j ∈ vs
    · rw [rest_in hl hj] at h
      exact absurd h (nown hj)
    · rw [rest_out hj] at h
      obtain ⟨a, us, h1, h2, h3, h4⟩ := R.own j b xs h
      rw [wipe_out hj] at h1
      exact ⟨a, us, h1, h2, h3.weak w, h4⟩
  · by_cases hj : j ∈ vs
    · rw [rest_in hl hj] at h
      exact absurd h (nexn hj)
    · rw [rest_out hj] at h
      obtain ⟨a, cls, d, h1, h2, h3⟩ := R.exn j c fs h
      rw [wipe_out hj] at h2
      exact ⟨a, cls, d, h1, h2, h3.weak w⟩
  · by_cases hj : j ∈ vs
    · rw [rest_in hl hj] at h
      exact absurd h (nraw hj)
    · rw [rest_out hj] at h
      obtain ⟨v, h1, h2⟩ := R.raw j h
      rw [wipe_out hj] at h2
      exact ⟨v, h1, h2⟩
end
/-- the reading of a comprehension -/
theorem Out.of {α : Type} {w : Wx} {x : Res α} {a : α} {k : α → Prop} (e : x = .ok a) (h : k a) : Out w x k := by rw [e]; exact h
theorem pur_inv {α : Type} {x : Res α} {a : α} (h : pur x = .ok a) : x = .ok a := by
  cases x with
  | ok b => exact h
  | error e => cases h
theorem rd_lc {K : PySem.W.Frag} {J : Jx} {f : EvA} {g : EvG} {tt ee : EvF} {vs : List Nat} {σ : St} {H : Hp} {Q : VK} (h : tL K J (mComp f vs g tt ee) σ H Q) :
    tLc (tI K J f) (fun v σ H Q => KF K H → tG K J.bot vs g v σ H Q) (tTs K J.bot tt) (tE K J.bot ee) vs σ H fun v H' => KF K H' → Q v H' := by
  obtain ⟨G, ρ, R, h⟩ := h
  refine ⟨G, ρ, R, h.bnd fun pr h G' W H1 R1 ex Y p hp => ?_⟩
  obtain ⟨ds, ρ1⟩ := pr
  obtain ⟨hc, h⟩ := h.ite
  obtain ⟨⟨zs, ρe⟩, h2, hq⟩ := h.pur
  dsimp only at hc h2 R1 Y hq
  replace R1 := R1.bot
  · cases hk : K.lookup p with
    | some o =>
      -- p is never the place of a new list: nothing can be asked
      have hh : ∀ v d, G'.hd v d → Rp K (MM G' ρ1 σ) (upd H1 p (.lst [])) v d := fun v d z => (R1.held v d z).same (Same.upd hp)
      obtain ⟨Y1, Y2, Y3⟩ := Y _ _ hh
      have nk : ∀ {H2 : Hp}, Same (upd H1 p (.lst [])) H2 → ¬ KF K H2 := fun {H2} s kf => by
        have := kf p o hk
        rw [s p _ upd_same] at this
        cases this
      refine ⟨fun i m H2 => i = 0 ∧ H2 = upd H1 p (.lst []), ⟨0, rfl, rfl⟩, ?_⟩
      rintro i m H2 ⟨rfl, rfl⟩
      by_cases h0 : ds.length = 0
      · rw [h0] at Y2
        exact .inl ⟨Y2, fun kf => absurd kf (nk (Same.refl _))⟩
      · refine .inr ⟨Y1 0 (by omega), fun _ => False, fun _ z => z.elim, fun x H3 y kf => absurd kf (nk (Y3 0 x H3 (by omega) y).1)⟩
    | none =>
      let Gb : Gh := (G'.slots ρ1 σ).add p
      have kf1 : KF K (upd H1 p (.lst [])) := kf_upd R1.kf hk
      have Rb : Rel K J.bot Gb (wipeD ρ1 vs) (wipe σ vs) (upd H1 p (.lst [])) := (R1.slots.fresh hp kf1).wipe vs
      have fxp : ∀ o, ¬ Gb.fx p o := fun o z => by
        have := R1.keep p o z
        rw [hp] at this
        cases this
      have hMp : Gb.M p := .inr rfl
      refine ⟨fun i m H2 => m = ds.length - i ∧ i ≤ ds.length ∧ ∃ ρi acc ad rs, Rel K J.bot Gb ρi (wipe σ vs) H2 ∧ H2 p = some (.lst acc) ∧ RpA K (MM Gb ρi (wipe σ vs)) H2 acc ad ∧ acc.length ≤ i ∧
        compL g tt ee vs (ds.drop i) ρi = .ok (rs, ρe) ∧ zs = ad ++ rs, ⟨_, rfl, Nat.zero_le _, wipeD ρ1 vs, [], [], zs, Rb, upd_same, .nil, Nat.le_refl _, h2, rfl⟩, ?_⟩
      rintro i m H2 ⟨rfl, hi, ρi, acc, ad, rs, Ri, hH, hr, hal, hl, ez⟩
      obtain ⟨Y1, Y2, Y3⟩ := Y _ H2 fun v d z => Ri.held v d (.inl z)
      by_cases hlt : i < ds.length
      · refine .inr ⟨Y1 i hlt, fun H' => ∃ ρi acc ad rs, Rel K J.bot Gb ρi (wipe σ vs) H' ∧ H' p = some (.lst acc) ∧ RpA K (MM Gb ρi (wipe σ vs)) H' acc ad ∧ acc.length ≤ i + 1 ∧
          compL g tt ee vs (ds.drop (i + 1)) ρi = .ok (rs, ρe) ∧ zs = ad ++ rs, fun H' z => ⟨ds.length - (i + 1), by omega, rfl, hlt, z⟩, fun x H3 y kf => ?_⟩
        obtain ⟨sm, d, hd, r⟩ := Y3 i x H3 hlt y
        have r := r Ri.domM
        rw [List.drop_eq_getElem_cons hlt] at hl
        have ed : ds[i] = d := by rw [List.getElem?_eq_getElem hlt] at hd; exact Option.some.inj hd
        rw [ed] at hl
        rw [compL] at hl
        obtain ⟨ρ3, h3, hl⟩ := bnd_inv hl
        replace h3 := pur_inv h3
        obtain ⟨⟨d4, ρ4⟩, h4, hl⟩ := bnd_inv hl
        have R3 : Rel K J.bot (Gb.lock p acc ad) ρi (wipe σ vs) H3 := (Ri.same kf sm).lock hMp (sm _ _ hH) (hr.same sm)
        refine ⟨Gb.lock p acc ad, ρi, d, ρ3, R3, r, h3, fun σ4 R4 w4 _ => ⟨w4.trans wipe_wipe, ?_⟩⟩
        cases d4 with
        | bool b =>
          refine ⟨Gb.lock p acc ad, ρ3, R4, Out.of h4 ⟨b, rfl, fun H5 R5 => ?_⟩⟩
          have w4' : wipe σ4 vs = wipe σ vs := w4.trans wipe_wipe
          cases b with
          | true =>
            show (if true = true then _ else _)
            rw [if_pos rfl]
            obtain ⟨⟨d6, ρ6⟩, h6, hl⟩ := bnd_inv hl
            obtain ⟨⟨zs7, ρ7⟩, h7, hl⟩ := bnd_inv hl
            cases hl
            refine ⟨Gb.lock p acc ad, ρ4, R5, Out.of h6 fun y6 H6 R6 r6 => ?_⟩
            obtain ⟨R8, hH8, hr8⟩ := R6.unlock hr.len
            have kf8 : KF K (upd H6 p (.lst (acc ++ [y6]))) := kf_upd R8.kf hk
            have kp : Keeps (MM Gb ρ6 σ4) H6 (upd H6 p (.lst (acc ++ [y6]))) := fun a u n e => by rw [upd_ne fun z => n (by rw [z]; exact .inl hMp)]; exact e
            have R9 := (R8.updM (o := .lst (acc ++ [y6])) hMp fxp kf8 hH8 rfl).wipe vs
            rw [w4'] at R9
            have wk : ∀ b, MM Gb (wipeD ρ6 vs) (wipe σ vs) b → MM Gb ρ6 σ4 b := fun b z => by
              rcases z with z | ⟨j, b', xs', q1, q2⟩
              · exact .inl z
              · refine .inr ⟨j, b', xs', wipeD_some q1, ?_⟩
                · rw [← w4'] at q2
                  exact (wipe_some q2).1
            refine ⟨acc, hH8, by have := lim_le hc.1; omega, wipeD ρ6 vs, acc ++ [y6], ad ++ [d6], zs7, R9, upd_same, ?_, by rw [List.length_append]; show acc.length + 1 ≤ i + 1; omega, h7, by rw [ez, List.append_assoc]; rfl⟩
            exact (hr8.append (.cons r6 .nil)).mono wk kp
          | false =>
            show (if false = true then _ else _)
            rw [if_neg Bool.false_ne_true]
            obtain ⟨R8, hH8, hr8⟩ := R5.unlock hr.len
            have R9 := R8.wipe vs
            rw [w4'] at R9
            have wk : ∀ b, MM Gb (wipeD ρ4 vs) (wipe σ vs) b → MM Gb ρ4 σ4 b := fun b z => by
              rcases z with z | ⟨j, b', xs', q1, q2⟩
              · exact .inl z
              · refine .inr ⟨j, b', xs', wipeD_some q1, ?_⟩
                · rw [← w4'] at q2
                  exact (wipe_some q2).1
            exact ⟨wipeD ρ4 vs, acc, ad, rs, R9, hH8, hr8.weak wk, by omega, hl, ez⟩
        | _ => cases hl
      · have ei : i = ds.length := by omega
        subst ei
        rw [List.drop_length] at hl
        cases hl
        rw [List.append_nil] at ez
        subst ez
        refine .inl ⟨Y2, fun kf => ?_⟩
        have Rr := R1.rest hc.2 Ri
        have ex' : Ext (G.add p) (G'.add p) := ⟨by unfold Gh.add; dsimp only; rw [ex.m], ex.b, ex.fx, ex.hd⟩
        have Rg := (Rr.ext ex').unbot
        have wk : ∀ b, MM (G.add p) (restD ρe ρ1 vs) σ b → MM Gb ρe (wipe σ vs) b := fun b z => by
          have hl : ρe.length = ρ1.length := by rw [Ri.len, wipe_length, R1.len]
          rcases z with z | ⟨j, b', xs', q1, q2⟩
          · refine .inl ?_
            rcases z with z | z
            · exact .inl (by show G'.M b; rw [ex.m]; exact z)
            · exact .inr z
          · by_cases hj : j ∈ vs
            · rw [rest_in hl hj] at q1
              have := List.all_eq_true.mp hc.2 j hj
              rw [q1] at this
              cases this
            · rw [rest_out hj] at q1
              exact .inr ⟨j, b', xs', q1, by rw [wipe_out hj]; exact q2⟩
        refine hq p acc _ Rg hH (hr.weak wk) (fun z => ?_) fun o z => fxp o (ex.fx p o z)
        rcases z with z | ⟨j, b', xs', q1, q2⟩
        · have z' : G'.M p := by rw [ex.m]; exact z
          exact R1.dom p z' hp
        · obtain ⟨a, us, g1, g2, g3, g4, _⟩ := Rg.own j b' xs' q1
          rw [q2] at g1
          cases g1
          exact g4 (.inr rfl)

section
variable {X : Cx} {J : Jx} {elt tg iter e : Expr} {ifs : List Expr} {scope : Scope} {own : List (Str × Nat)} {pos spos py : Pos} {f : EvA} {g : EvG} {tt ee : EvF}
theorem dp_nil : PTs X [] (tTs X.K J (mC (.bool true))) := by
  refine ⟨fun pins s σ H Q I h => pts_nil.run pins s σ H Q I ?_⟩
  obtain ⟨G, ρ, R, h⟩ := h
  obtain ⟨b, e, h⟩ := h.ok
  cases e
  exact h _ R
theorem dp_one {c : Expr} (h : PT X c (tTs X.K J tt)) : PTs X [c] (tTs X.K J tt) := pts_one h
theorem dl_lc (hc : X.calm = true) (hN : X.N.Nodup) (hi : PI X tg iter (tI X.K J f)) (ok : BlkOk X.N X.env.scope scope own)
    (hg : ∀ (s : Shared) (H : Hp) (C : Addr) (cl : List (Str × Addr)) (fp : List Addr), PG (X.blk s H scope (compEnvC scope cl C X.env) fp) tg (tG X.K J.bot (own.map (·.2)) g))
    (ht : ∀ (s : Shared) (H : Hp) (C : Addr) (cl : List (Str × Addr)) (fp : List Addr), PTs (X.blk s H scope (compEnvC scope cl C X.env) fp) ifs (tTs X.K J.bot tt))
    (he : ∀ (s : Shared) (H : Hp) (C : Addr) (cl : List (Str × Addr)) (fp : List Addr), PE (X.blk s H scope (compEnvC scope cl C X.env) fp) elt (tE X.K J.bot ee)) (hs : ∀ x, foldedSetIterable iter X.env x = pure x := by intro _; rfl) :
    PE X (.ListComp elt [⟨tg, iter, ifs, 0⟩] scope pos) (tL X.K J (mComp f (own.map (·.2)) g tt ee)) :=
  PE.by (pe_lc hc hN hi ok (fun s H C cl fp => PG.pre (hg s H C cl fp)) ht he hs) fun _ _ _ h => rd_lc h
theorem rd_setLc {K : PySem.W.Frag} {i : Nat} {vs : List Nat} {E : Ends} {σ : St} {H : Hp} (h : tS K J (mSetOwn i (mComp f vs g tt ee)) E σ H) :
    tAsg (tLc (tI K J f) (fun v σ H Q => KF K H → tG K J.bot vs g v σ H Q) (tTs K J.bot tt) (tE K J.bot ee) vs) (gName i) (kfE K E) σ H := rd_lc (Q := fun v H' => E.nx (σ.set i (some v)) H') (rd_setOwn (E := E) h)
theorem rd_setLcD {K : PySem.W.Frag} {i : Nat} {vs : List Nat} {E : Ends} {σ : St} {H : Hp} (h : tS K J (mSet i (mOfL (mComp f vs g tt ee))) E σ H) :
    tAsg (tLc (tI K J f) (fun v σ H Q => KF K H → tG K J.bot vs g v σ H Q) (tTs K J.bot tt) (tE K J.bot ee) vs) (gName i) (kfE K E) σ H := by
  refine rd_lc (Q := fun v H' => E.nx (σ.set i (some v)) H') ?_
  obtain ⟨G, ρ, R, h⟩ := h
  have h' : Out (wS K J G) (bnd (mComp f vs g tt ee ρ) fun p => if i < p.2.length then .ok (Ctl.nx, p.2.set i (some (Sl.dat (.list p.1)))) else stuck) fun p => wantS K J E G p.1 p.2 := by
    unfold mSet mOfL at h
    revert h
    cases mComp f vs g tt ee ρ with
    | ok a => exact fun z => z
    | error e => exact fun z => z
  refine ⟨G, ρ, R, h'.e.bnd fun p h a us H' R' ha hx hM hf => ?_⟩
  obtain ⟨hl, h⟩ := h.ite
  refine h _ _ (R'.unadd.set hl ?_)
  exact .lst hM (SqL.of ha) (hx.weak fun b z => mm_add.mpr (.inl z))
/-- y = [..] on one line, y a plain local -/
theorem ds_setLc (i : Nat) {y : Str} (hc : X.calm = true) (hN : X.N.Nodup) (hy : X.N[i]? = some y) (hyl : X.env.scope.names.lookup y = some .local)
    (hsw : swapsWith (.ListComp elt [⟨tg, iter, ifs, 0⟩] scope pos) (some (.Name y py)) spos.line X.env = pure true) (hi : PI X tg iter (tI X.K J f)) (ok : BlkOk X.N X.env.scope scope own)
    (hg : ∀ (s : Shared) (H : Hp) (C : Addr) (cl : List (Str × Addr)) (fp : List Addr), PG (X.blk s H scope (compEnvC scope cl C X.env) fp) tg (tG X.K J.bot (own.map (·.2)) g))
    (ht : ∀ (s : Shared) (H : Hp) (C : Addr) (cl : List (Str × Addr)) (fp : List Addr), PTs (X.blk s H scope (compEnvC scope cl C X.env) fp) ifs (tTs X.K J.bot tt))
    (he : ∀ (s : Shared) (H : Hp) (C : Addr) (cl : List (Str × Addr)) (fp : List Addr), PE (X.blk s H scope (compEnvC scope cl C X.env) fp) elt (tE X.K J.bot ee)) (hs : ∀ x, foldedSetIterable iter X.env x = pure x := by intro _; rfl) :
    PS X (.Assign [.Name y py] (.ListComp elt [⟨tg, iter, ifs, 0⟩] scope pos) spos) (tS X.K J (mSet i (mOfL (mComp f (own.map (·.2)) g tt ee)))) :=
  PS.by (ps_setLc hc hN hy hyl hsw hi ok (fun s H C cl fp => PG.pre (hg s H C cl fp)) ht he hs) fun _ _ _ h => rd_setLcD h
theorem ds_setOwnLc (i : Nat) {y : Str} (hc : X.calm = true) (hN : X.N.Nodup) (hy : X.N[i]? = some y) (hyl : X.env.scope.names.lookup y = some .local)
    (hsw : swapsWith (.ListComp elt [⟨tg, iter, ifs, 0⟩] scope pos) (some (.Name y py)) spos.line X.env = pure true) (hi : PI X tg iter (tI X.K J f)) (ok : BlkOk X.N X.env.scope scope own)
    (hg : ∀ (s : Shared) (H : Hp) (C : Addr) (cl : List (Str × Addr)) (fp : List Addr), PG (X.blk s H scope (compEnvC scope cl C X.env) fp) tg (tG X.K J.bot (own.map (·.2)) g))
    (ht : ∀ (s : Shared) (H : Hp) (C : Addr) (cl : List (Str × Addr)) (fp : List Addr), PTs (X.blk s H scope (compEnvC scope cl C X.env) fp) ifs (tTs X.K J.bot tt))
    (he : ∀ (s : Shared) (H : Hp) (C : Addr) (cl : List (Str × Addr)) (fp : List Addr), PE (X.blk s H scope (compEnvC scope cl C X.env) fp) elt (tE X.K J.bot ee)) (hs : ∀ x, foldedSetIterable iter X.env x = pure x := by intro _; rfl) :
    PS X (.Assign [.Name y py] (.ListComp elt [⟨tg, iter, ifs, 0⟩] scope pos) spos) (tS X.K J (mSetOwn i (mComp f (own.map (·.2)) g tt ee))) :=
  PS.by (ps_setLc hc hN hy hyl hsw hi ok (fun s H C cl fp => PG.pre (hg s H C cl fp)) ht he hs) fun _ _ _ h => rd_setLc h
end
end L2.DL

namespace L2.DL
open PySem PySem.Spec PyProof.Rows

/-! ## promises -/
/-- what is wished of a callee's exception -/
def wC (K : PySem.W.Frag) (M : Addr → Prop) (H : Hp) (E : XK) : Wx := fun c fs _ => ∀ cls d H', Same H H' → KF K H' → XRep K M H' cls d c fs → E cls d H'
/-- of a def on data -/
def spP (K : PySem.W.Frag) (n : Nat) (m : List D → Res D) : Sp := fun vs H Q E => vs.length = n ∧ ∃ (M : Addr → Prop) (ds : List D), RpA K M H vs ds ∧ (∀ a, M a → H a ≠ none) ∧ Out (wC K M H E) (m ds) fun d =>
  ∀ v H', Same H H' → KF K H' → Rp K M H' v d → Q v H'
/-- of a def that gives a new object -/
def spN (K : PySem.W.Frag) (n : Nat) (m : List D → Res OB) : Sp := fun vs H Q E => vs.length = n ∧ ∃ (M : Addr → Prop) (ds : List D), RpA K M H vs ds ∧ (∀ a, M a → H a ≠ none) ∧ Out (wC K M H E) (m ds) fun z =>
  ∀ a u H', Same H H' → KF K H' → H a = none → H' a = some u → RpO K (fun b => M b ∨ b = a) H' u z → Q (.ref a) H'
/-- of a def that gives a new list -/
def spL (K : PySem.W.Frag) (n : Nat) (m : List D → Res (List D)) : Sp := fun vs H Q E => vs.length = n ∧ ∃ (M : Addr → Prop) (ds : List D), RpA K M H vs ds ∧ (∀ a, M a → H a ≠ none) ∧ Out (wC K M H E) (m ds) fun zs =>
  ∀ a us H', Same H H' → KF K H' → H a = none → H' a = some (.lst us) → RpA K (fun b => M b ∨ b = a) H' us zs → Q (.ref a) H'
/-- of a def whose first argument is a list that it may change; it lets nothing out -/
def spB (K : PySem.W.Frag) (n : Nat) (m : List D → List D → Res (D × List D)) : Sp := fun vs H Q _ => vs.length = n ∧ ∃ (M : Addr → Prop) (b : Addr) (bvs vs' : List V) (xs ds : List D) (d : D) (xs' : List D), vs = .ref b :: vs' ∧ ¬ M b ∧
  H b = some (.lst bvs) ∧ RpA K (fun a => M a ∨ a = b) H bvs xs ∧ RpA K (fun a => M a ∨ a = b) H vs' ds ∧ (∀ a, M a → H a ≠ none) ∧ m xs ds = .ok (d, xs') ∧
  ∀ v H' bvs', (∀ a o, a ≠ b → H a = some o → H' a = some o) → KF K H' → H' b = some (.lst bvs') → RpA K (fun a => M a ∨ a = b) H' bvs' xs' → Rp K (fun a => M a ∨ a = b) H' v d → Q v H'
structure Has (P : Program) (w : World) (K : PySem.W.Frag) (mg : Str → Option Value) (base : Heap) (k : Nat) (x : Str) (sp : Sp) : Prop where
  ex : ∃ (f : Addr) (fd : FuncData) (ps : List Str), mg x = some (.ref f) ∧ PySem.W.keepIn K (.ref f) = true ∧ Binds K fd ps [] ∧ FnOk P w K mg base (L2N.CX P w) k f fd ps sp

/-- an exception is told at the caller's slots -/
def atR {α : Type} (ρ : DEnv) (x : Res α) : Res α := match x with
  | .error (.exc c fs _) => .error (.exc c fs ρ)
  | y => y
@[simp] theorem atR_ok {α : Type} (ρ : DEnv) (a : α) : atR ρ (.ok a) = .ok a := rfl
@[simp] theorem atR_stuck {α : Type} (ρ : DEnv) : atR ρ (stuck : Res α) = stuck := rfl
@[simp] theorem atR_exc {α : Type} (ρ ρ' : DEnv) (c : Str) (fs : List (Str × D)) : atR ρ (.error (.exc c fs ρ') : Res α) = .error (.exc c fs ρ) := rfl
section
variable {X : Cx} {J : Jx} {x : Str} {p pos : Pos} {e : Expr} {es : List Expr} {fs : EvA} {n k : Nat} {m : List D → Res D} {ml : List D → Res (List D)} {mn : List D → Res OB} {mb : List D → List D → Res (D × List D)}
/-- from a callee's result to the caller's wish -/
theorem out_call {α β : Type} {K : PySem.W.Frag} {G : Gh} {ρ : DEnv} {σ : St} {H1 : Hp} {r : Res α} {f : α → Res β} {kb : β → Prop} {kk : α → Prop} (R1 : Rel K J G ρ σ H1) (h : Out (wE K J G σ) (bnd (atR ρ r) f) kb)
    (hk : ∀ a, r = .ok a → Out (wE K J G σ) (f a) kb → kk a) : Out (wC K (MM G ρ σ) H1 fun cls d H => J.W cls d σ H) r kk := by
  cases r with
  | ok a => exact hk a rfl h
  | error e =>
    cases e with
    | stuck => exact h
    | exc c fs ρ' => exact fun cls d H' s kf z => h cls d H' (R1.same kf s) z
def mCall (n : Nat) (m : List D → Res D) (fs : EvA) : EvF := fun ρ => bnd (fs ρ) fun p => if p.1.length = n then bnd (atR p.2 (m p.1)) fun d => .ok (d, p.2) else stuck
theorem rd_call {K : PySem.W.Frag} {σ : St} {H : Hp} {Q : VK} (h : tE K J (mCall n m fs) σ H Q) : tCallS (spP K n m) (WE J.W) (tA K J fs) σ H Q := by
  obtain ⟨G, ρ, R, h⟩ := h
  refine ⟨G, ρ, R, h.bnd fun p h vs H1 R1 r1 => ?_⟩
  split at h
  · rename_i hn
    exact ⟨by rw [r1.len]; exact hn, MM G p.2 σ, p.1, r1, R1.domM, out_call R1 h fun d _ h v H' s kf r => h.ok v H' (R1.same kf s) r⟩
  · exact h.elim
theorem de_call (h : Has X.prog X.w X.K X.mg X.base k x (spP X.K n m)) (hr : Room k X.A) (tk : L2N.Takes X J.W) (ha : PA X (e :: es) (tA X.K J fs)) (hg : Gl X x := by rfl) (hdb : (x == ("__debug__" : Str)) = false := by decide)
    (he : starEach (e :: es) X.env = (false, eval e X.env) :: starEach es X.env := by rfl) (hpl : (backTo pos (starEach es X.env)).any (·.1) = false := by rfl) : PE X (.Call (.Name x p) (e :: es) [] pos) (tE X.K J (mCall n m fs)) := by
  obtain ⟨f, fd, ps, hm, hk, hb, F⟩ := h.ex
  exact ⟨fun pins s σ H Q I hq => (pe_callS (E := WE J.W) F hr hg hm hk hb (fun σ => L2N.passAt tk σ) ha hdb he hpl).run pins s σ H Q I (rd_call hq)⟩
def tCallS0 (sp : Sp) (E : St → XK) : TE := fun σ H Q => sp [] H Q (E σ)
theorem pe_callS0 {f : Addr} {fd : FuncData} {ps : List Str} {sp : Sp} {E : St → XK} {CX : CXT} (F : FnOk X.prog X.w X.K X.mg X.base CX k f fd ps sp) (hr : Room k X.A) (hg : Gl X x) (hm : X.mg x = some (.ref f)) (hk : PySem.W.keepIn X.K (.ref f) = true) (hb : Binds X.K fd ps []) (hx : ∀ σ, PassesAt CX X σ (E σ))
    (hdb : (x == ("__debug__" : Str)) = false := by decide) : PE X (.Call (.Name x p) [] [] pos) (tCallS0 sp E) := by
  refine ⟨fun pins s σ H Q I h => ?_⟩
  refine wpAny_Call_Name_kw (ld_glob I hg hm ?_ hdb)
  exact PySem.W.callWith_K0 I.kIn hk (run_fnS (us := []) F hr hb (hx σ) I .nil h)
theorem de_call0 (h : Has X.prog X.w X.K X.mg X.base k x (spP X.K n m)) (hr : Room k X.A) (tk : L2N.Takes X J.W) (hg : Gl X x := by rfl) (hdb : (x == ("__debug__" : Str)) = false := by decide) : PE X (.Call (.Name x p) [] [] pos) (tE X.K J (mCall n m mNil)) := by
  obtain ⟨f, fd, ps, hm, hk, hb, F⟩ := h.ex
  refine ⟨fun pins s σ H Q I hq => (pe_callS0 (E := WE J.W) F hr hg hm hk hb (fun σ => L2N.passAt tk σ) hdb).run pins s σ H Q I ?_⟩
  obtain ⟨G, ρ, R, h⟩ := rd_call hq
  exact h [] H R .nil
/-- a def that gives a new list -/
def mCallL (n : Nat) (m : List D → Res (List D)) (fs : EvA) : EvA := fun ρ => bnd (fs ρ) fun p => if p.1.length = n then bnd (atR p.2 (m p.1)) fun d => .ok (d, p.2) else stuck
theorem Rel.freshS {K : PySem.W.Frag} {G : Gh} {ρ : DEnv} {σ : St} {H H' : Hp} {a : Addr} {o : HO} (R : Rel K J G ρ σ H) (hp : H a = none) (s : Same H H') (kf : KF K H') (ha : H' a = some o) (pl : plainO o = true := by rfl) : Rel K J (G.add a) ρ σ H' := by
  refine (R.fresh (o := o) hp (kf_upd R.kf (kf.free ha)) pl).same kf fun b u e => ?_
  by_cases q : b = a
  · subst q; rw [upd_same] at e; cases e; exact ha
  · rw [upd_ne q] at e; exact s b u e
theorem dl_call (h : Has X.prog X.w X.K X.mg X.base k x (spL X.K n ml)) (hr : Room k X.A) (tk : L2N.Takes X J.W) (ha : PA X (e :: es) (tA X.K J fs)) (hg : Gl X x := by rfl) (hdb : (x == ("__debug__" : Str)) = false := by decide)
    (he : starEach (e :: es) X.env = (false, eval e X.env) :: starEach es X.env := by rfl) (hpl : (backTo pos (starEach es X.env)).any (·.1) = false := by rfl) : PE X (.Call (.Name x p) (e :: es) [] pos) (tL X.K J (mCallL n ml fs)) := by
  obtain ⟨f, fd, ps, hm, hk, hb, F⟩ := h.ex
  refine ⟨fun pins s σ H Q I hq => (pe_callS (E := WE J.W) F hr hg hm hk hb (fun σ => L2N.passAt tk σ) ha hdb he hpl).run pins s σ H Q I ?_⟩
  obtain ⟨G, ρ, R, h⟩ := hq
  refine ⟨G, ρ, R, h.bnd fun p h vs H1 R1 r1 => ?_⟩
  split at h
  · rename_i hn
    exact ⟨by rw [r1.len]; exact hn, MM G p.2 σ, p.1, r1, R1.domM, out_call R1 h fun d _ h a us H' s kf ha' hu r => h.ok a us H' (R1.freshS ha' s kf hu) hu (r.weak fun b z => mm_add.mp z) (R1.nown ha') (R1.nfx ha')⟩
  · exact h.elim
/-- a def that gives a new object -/
def mCallN (n : Nat) (m : List D → Res OB) (fs : EvA) : EvN := fun ρ => bnd (fs ρ) fun p => if p.1.length = n then bnd (atR p.2 (m p.1)) fun d => .ok (d, p.2) else stuck
theorem dn_call (h : Has X.prog X.w X.K X.mg X.base k x (spN X.K n mn)) (hr : Room k X.A) (tk : L2N.Takes X J.W) (ha : PA X (e :: es) (tA X.K J fs)) (hg : Gl X x := by rfl) (hdb : (x == ("__debug__" : Str)) = false := by decide)
    (he : starEach (e :: es) X.env = (false, eval e X.env) :: starEach es X.env := by rfl) (hpl : (backTo pos (starEach es X.env)).any (·.1) = false := by rfl) : PE X (.Call (.Name x p) (e :: es) [] pos) (tN X.K J (mCallN n mn fs)) := by
  obtain ⟨f, fd, ps, hm, hk, hb, F⟩ := h.ex
  refine ⟨fun pins s σ H Q I hq => (pe_callS (E := WE J.W) F hr hg hm hk hb (fun σ => L2N.passAt tk σ) ha hdb he hpl).run pins s σ H Q I ?_⟩
  obtain ⟨G, ρ, R, h⟩ := hq
  refine ⟨G, ρ, R, h.bnd fun p h vs H1 R1 r1 => ?_⟩
  split at h
  · rename_i hn
    exact ⟨by rw [r1.len]; exact hn, MM G p.2 σ, p.1, r1, R1.domM, out_call R1 h fun d _ h a u H' s kf ha' hu r => h.ok a u H' (R1.freshS ha' s kf hu r.plain) hu (r.weak fun b z => mm_add.mp z) (R1.nown ha') (R1.nfx ha')⟩
  · exact h.elim
/-- a def that may change the list in slot i -/
def mCallB (n : Nat) (m : List D → List D → Res (D × List D)) (i : Nat) (fs : EvA) : EvF := fun ρ => bnd (pur (ownAt2 i ρ)) fun _ => bnd (fs ρ) fun p => bnd (pur (ownAt2 i p.2)) fun q => if p.1.length + 1 = n then
  bnd (pur (m q.2 p.1)) fun r => .ok (r.1, p.2.set i (some (Sl.own q.1 r.2))) else stuck
theorem RpO.lst_inv {K : PySem.W.Frag} {M : Addr → Prop} {H : Hp} {u : HO} {xs : List D} (h : RpO K M H u (.lst xs)) : ∃ vs, u = .lst vs ∧ RpA K M H vs xs := by
  cases h with
  | lst r => exact ⟨_, rfl, r⟩
/-- a list of the def's own is changed by someone else, the heap having grown -/
theorem write_to {K : PySem.W.Frag} {G : Gh} {ρ : DEnv} {σ : St} {H H' : Hp} {a : Addr} {i : Nat} {b : Bool} {xs xs' : List D} {vs' : List V} (R : Rel K J G ρ σ H) (hi : ρ[i]? = some (some (Sl.own b xs))) (hs : σ[i]? = some (some (V.ref a))) (kf : KF K H')
    (sm : Same (upd H a (.lst vs')) H') (ha : H' a = some (.lst vs')) (hx : RpA K (MM G ρ σ) H' vs' xs') : Rel K J G (ρ.set i (some (Sl.own b xs'))) σ H' := by
  -- the list is first said to be empty, then the heap grows, then its contents come
  have kfa : K.lookup a = none := kf.free ha
  have R1 := R.write hi hs (kf_upd (o := .lst []) R.kf kfa) (o' := .lst []) (u' := .lst []) (.lst .nil)
  have e1 : (ρ.set i (some (Sl.own b ([] : List D))))[i]? = some (some (Sl.own b [])) := List.getElem?_set_self (List.getElem?_eq_some_iff.mp hi).1
  have mm : ∀ c, MM G (ρ.set i (some (Sl.own b ([] : List D)))) σ c → MM G ρ σ c := fun c z => by
    rcases z with z | ⟨j, b', ys, g1, g2⟩
    · exact .inl z
    · refine .inr ⟨j, ?_⟩
      rcases set_get g1 with ⟨rfl, _⟩ | ⟨_, g1⟩
      · exact ⟨_, _, hi, g2⟩
      · exact ⟨_, _, g1, g2⟩
  -- a heap in which a is still empty
  have kf0 : KF K (upd H' a (.lst [])) := kf_upd kf kfa
  have R2 := R1.same kf0 fun c o e => by
    by_cases q : c = a
    · subst q; rw [upd_same] at e ⊢; exact e
    · rw [upd_ne q] at e ⊢; exact sm c o (by rw [upd_ne q]; exact e)
  have kp : Keeps (MM G ρ σ) H' (upd H' a (.lst [])) := fun c o n e => by rw [upd_ne fun q => n (.inr ⟨i, _, _, hi, by rw [q]; exact hs⟩)]; exact e
  have R3 := R2.write (u' := .lst vs') (o' := .lst xs') e1 hs (by rw [upd_upd]; exact kf_upd kf kfa) (.lst (hx.mono mm kp))
  rw [upd_upd, List.set_set] at R3
  refine R3.same kf fun c o e => ?_
  by_cases q : c = a
  · subst q; rw [upd_same] at e; cases e; exact ha
  · rw [upd_ne q] at e; exact e
theorem de_callB (h : Has X.prog X.w X.K X.mg X.base k x (spB X.K n mb)) (hr : Room k X.A) (tk : L2N.Takes X J.W) (i : Nat) {y : Str} {py : Pos} (ha : PA X es (tA X.K J fs)) (hN : X.N[i]? = some y := by rfl) (hv : Vis X.env.scope y := by first | exact Or.inl rfl | exact Or.inr (Or.inl rfl) | exact Or.inr (Or.inr rfl))
    (hd : (y == ("__debug__" : Str)) = false := by decide) (hcd : (y == ("__classdict__" : Str)) = false := by decide) (hg : Gl X x := by rfl) (hdb : (x == ("__debug__" : Str)) = false := by decide)
    (he : starEach (.Name y py :: es) X.env = (false, eval (.Name y py) X.env) :: starEach es X.env := by rfl) (hpl : (backTo pos (starEach es X.env)).any (·.1) = false := by rfl) :
    PE X (.Call (.Name x p) (.Name y py :: es) [] pos) (tE X.K J (mCallB n mb i fs)) := by
  obtain ⟨f, fd, ps, hm, hk, hb, F⟩ := h.ex
  refine ⟨fun pins s σ H Q I hq => (pe_callS (E := WE J.W) F hr hg hm hk hb (fun σ => L2N.passAt tk σ) (pa_cons (pv i hN hv hd hcd) ha he) hdb he hpl).run pins s σ H Q I ?_⟩
  obtain ⟨G, ρ, R, h⟩ := hq
  obtain ⟨⟨b0, xs0⟩, h0, h⟩ := h.pur
  have e0 := ownAt2_inv h0
  obtain ⟨a, vs0, s0, H0, _⟩ := R.own i _ _ e0
  refine ⟨.ref a, s0, G, ρ, R, h.bnd fun p h vs H1 R1 r1 => ?_⟩
  obtain ⟨ds, ρ1⟩ := p
  obtain ⟨⟨b1, xs1⟩, h2, h⟩ := h.pur
  have e1 := ownAt2_inv h2
  dsimp only at h r1 R1
  split at h
  · rename_i hn
    obtain ⟨⟨z, xs2⟩, h3, h⟩ := h.pur
    replace h := h.ok
    obtain ⟨a1, u1, s1, hH0, hr1, hM, _⟩ := R1.own i _ _ e1
    rw [s0] at s1
    cases s1
    obtain ⟨vs1, rfl, hr2⟩ := hr1.lst_inv
    have hH := hH0
    have oa : OwnAt ρ1 σ i a := ⟨_, _, e1, s0⟩
    have w1 : ∀ c, (MM G ρ1 σ c ∧ c ≠ a) ∨ c = a → MM G ρ1 σ c := fun c z => z.elim (fun q => q.1) fun q => by rw [q]; exact .inr ⟨i, oa⟩
    have w2 : ∀ c, MM G ρ1 σ c → (MM G ρ1 σ c ∧ c ≠ a) ∨ c = a := fun c z => by
      by_cases q : c = a
      · exact .inr q
      · exact .inl ⟨z, q⟩
    refine ⟨by rw [List.length_cons, r1.len]; exact hn, fun c => MM G ρ1 σ c ∧ c ≠ a, a, vs1, vs, xs1, ds, _, xs2, rfl, fun z => z.2 rfl, hH, hr2.weak w1, r1.weak w1, fun c z => R1.domM c z.1, h3, fun v H' bvs' kp kf hb' rb rv => ?_⟩
    have kfa : X.K.lookup a = none := kf.free hb'
    have kfu : KF X.K (upd H1 a (.lst bvs')) := kf_upd R1.kf kfa
    have sm : Same (upd H1 a (.lst bvs')) H' := fun c o ec => by
      by_cases q : c = a
      · subst q; rw [upd_same] at ec; cases ec; exact hb'
      · rw [upd_ne q] at ec; exact kp c o q ec
    -- the new contents, at the heap where a alone is changed
    have R2 := write_to R1 e1 s0 kf sm hb' (rb.weak w2)
    refine h v H' R2 (rv.weak fun c z => w2 c ?_)
    rcases z with z | ⟨j, b', xs', g1, g2⟩
    · exact .inl z
    · refine .inr ⟨j, ?_⟩
      rcases set_get g1 with ⟨rfl, _⟩ | ⟨_, g1⟩
      · exact ⟨_, _, e1, g2⟩
      · exact ⟨_, _, g1, g2⟩
  · exact h.elim
end

/-! ## defs -/
def fnStart (N : Nat) (ds : List D) : DEnv := ds.map (fun d => some (Sl.dat d)) ++ List.replicate (N - ds.length) none
def fnEnd (p : Ctl × DEnv) : Res D := match p.1 with | .rt d => .ok d | .nx => .ok .none | _ => stuck
def fnP (N : Nat) (b : EvS) (ds : List D) : Res D := atR [] (bnd (b (fnStart N ds)) fnEnd)
def fnEndB (p : Ctl × DEnv) : Res (D × List D) := match p.2[0]? with
  | some (some (Sl.ob true (.lst xs))) => (match p.1 with | .rt d => .ok (d, xs) | .nx => .ok (.none, xs) | _ => stuck)
  | _ => stuck
def fnB (N : Nat) (b : EvS) (xs ds : List D) : Res (D × List D) := bnd (b (some (Sl.own true xs) :: fnStart (N - 1) ds)) fnEndB
def fnL (N : Nat) (f : EvA) (ds : List D) : Res (List D) := atR [] (bnd (f (fnStart N ds)) fun p => .ok p.1)
def fnN (N : Nat) (f : EvN) (ds : List D) : Res OB := atR [] (bnd (f (fnStart N ds)) fun p => .ok p.1)
/-- the wish of a def's body -/
def JE (E : XK) : Jx := ⟨fun cls d _ H => E cls d H, none, none, Kn0⟩
theorem start_get {N : Nat} {ds : List D} {i : Nat} {s : Sl} (h : (fnStart N ds)[i]? = some (some s)) : ∃ d, ds[i]? = some d ∧ s = Sl.dat d := by
  unfold fnStart at h
  rw [List.getElem?_append] at h
  split at h
  · rw [List.getElem?_map] at h
    cases e : ds[i]? with
    | none => rw [e] at h; cases h
    | some d => rw [e] at h; cases h; exact ⟨d, rfl, rfl⟩
  · obtain ⟨_, h⟩ := List.getElem?_eq_some_iff.mp h
    rw [List.getElem_replicate] at h
    cases h
theorem start_val {n : Nat} {vs : List V} {i : Nat} {v : V} (h : vs[i]? = some v) : (vs.map some ++ List.replicate n none)[i]? = some (some v) := by
  have hl : i < vs.length := (List.getElem?_eq_some_iff.mp h).1
  rw [List.getElem?_append_left (by rw [List.length_map]; exact hl), List.getElem?_map, h]
  rfl
section
variable {P : Program} {w : World} {K : PySem.W.Frag} {mg : Str → Option Value} {base : Heap} {x qual : Str} {st : Stmt} {f : Addr} {fd : FuncData} {N ps : List Str} {k : Nat}
theorem rel_start {E : XK} {M : Addr → Prop} {H : Hp} {vs : List V} {ds : List D} (kf : KF K H) (hM : ∀ a, M a → H a ≠ none) (r : RpA K M H vs ds) (fx : Addr → HO → Prop) (hfx : ∀ a o, fx a o → H a = some o) :
    Rel K (JE E) ⟨M, fun _ => False, fx, fun _ _ => False⟩ (fnStart N.length ds) (start N vs) H := by
  have no : ∀ i a, ¬ OwnAt (fnStart N.length ds) (start N vs) i a := fun i a ⟨b, xs, h1, _⟩ => by
    obtain ⟨d, _, e⟩ := start_get h1
    cases e
  have wk : ∀ a, MM ⟨M, fun _ => False, fx, fun _ _ => False⟩ (fnStart N.length ds) (start N vs) a → M a := fun a z => z.elim (fun q => q) fun ⟨i, q⟩ => absurd q (no i a)
  refine ⟨?_, kf, hM, fun i d h => ?_, fun i b xs h => ?_, fun i j a h => absurd h (no i a), fun v d h => h.elim, hfx, fun i c fs h => ?_, fun i h => ?_, True.intro⟩
  · unfold fnStart start
    rw [List.length_append, List.length_append, List.length_map, List.length_map, List.length_replicate, List.length_replicate, r.len]
  · obtain ⟨d', h1, e⟩ := start_get h
    cases e
    obtain ⟨v, h2, h3⟩ := r.getD h1
    exact ⟨v, start_val h2, h3.weak wk⟩
  · obtain ⟨d', h1, e⟩ := start_get h
    cases e
  · obtain ⟨d', h1, e⟩ := start_get h
    cases e
  · obtain ⟨d', h1, e⟩ := start_get h
    cases e
theorem okN {sp : Sp} (F : Fun K x qual st f fd) (S : FnScope N ps (defScope st)) (len : ∀ vs H Q E, sp vs H Q E → vs.length = ps.length)
    (hbody : ∀ (cdv : Value) (A : Around) (outer : List Env) (s : Shared) (H : Hp) (vs : List V) (Q : VK) (E : XK), Room k (A.deeper (envOfC qual (defScope st) s.heap.objs.size f cdv)) → sp vs H Q E →
      ∃ t, PSs (cxOf (L2N.CX P w) P w K mg base N qual (defScope st) f cdv A outer s H E) (defBody st) t ∧ t { nx := fun _ H' => Q .non H', rt := Q } (start N vs) H) : FnOk P w K mg base (L2N.CX P w) (k + 1) f fd ps sp := by
  obtain ⟨oc, od, kV, doc, pm, an, cdv, ct, osl, rfl, lk, hcd⟩ := F.ex
  exact fn_of lk hcd S len fun A outer s H vs Q E hr hsp => hbody cdv A outer s H vs Q E hr hsp
theorem tk_top {cdv : Value} {A : Around} {outer : List Env} {s : Shared} {H : Hp} {E : XK} : L2N.Takes (cxOf (L2N.CX P w) P w K mg base N qual (defScope st) f cdv A outer s H E) (JE E).W := L2N.takes_of rfl rfl rfl rfl
theorem hp_top {cdv : Value} {A : Around} {outer : List Env} {s : Shared} {H : Hp} {E : XK} : PassesOwn (model P w) (cxOf (L2N.CX P w) P w K mg base N qual (defScope st) f cdv A outer s H E).A (cxOf (L2N.CX P w) P w K mg base N qual (defScope st) f cdv A outer s H E).env (cxOf (L2N.CX P w) P w K mg base N qual (defScope st) f cdv A outer s H E).xe := passes_of rfl
theorem ok_fnP {n : Nat} {b : EvS} (F : Fun K x qual st f fd) (S : FnScope N ps (defScope st)) (hn : ps.length = n)
    (hbody : ∀ (cdv : Value) (A : Around) (outer : List Env) (s : Shared) (H : Hp) (E : XK), Room k (A.deeper (envOfC qual (defScope st) s.heap.objs.size f cdv)) → L2N.Takes (cxOf (L2N.CX P w) P w K mg base N qual (defScope st) f cdv A outer s H E) (JE E).W →
      PassesOwn (model P w) (cxOf (L2N.CX P w) P w K mg base N qual (defScope st) f cdv A outer s H E).A (cxOf (L2N.CX P w) P w K mg base N qual (defScope st) f cdv A outer s H E).env (cxOf (L2N.CX P w) P w K mg base N qual (defScope st) f cdv A outer s H E).xe → PSs (cxOf (L2N.CX P w) P w K mg base N qual (defScope st) f cdv A outer s H E) (defBody st) (tS K (JE E) b)) :
    FnOk P w K mg base (L2N.CX P w) (k + 1) f fd ps (spP K n (fnP N.length b)) := by
  refine okN F S (fun vs H Q E h => h.1.trans hn.symm) (fun cdv A outer s H vs Q E hr h => ?_)
  obtain ⟨hl, M, ds, r, hM, ho⟩ := h
  refine ⟨_, L2.DL.PSs.pre (hbody cdv A outer s H E hr tk_top hp_top), fun kf => ?_⟩
  refine ⟨⟨M, fun _ => False, fun a o => H a = some o, fun _ _ => False⟩, _, rel_start kf hM r _ fun _ _ z => z, ?_⟩
  unfold fnP at ho
  cases hb : b (fnStart N.length ds) with
  | error e =>
    rw [hb] at ho
    cases e with
    | stuck => exact ho
    | exc c fs ρ' => exact fun σ' cls d H' R z => ho cls d H' (fun a o e => R.keep a o e) R.kf (z.weak fun a z => .inl z)
  | ok p =>
    rw [hb] at ho
    obtain ⟨c, ρ'⟩ := p
    cases c with
    | nx => exact fun σ' H' R => ho _ H' (fun a o e => R.keep a o e) R.kf .non
    | bk => exact ho.elim
    | ct => exact ho.elim
    | rt d' => exact fun σ' v H' R rv => ho _ H' (fun a o e => R.keep a o e) R.kf (rv.weak fun a z => .inl z)
theorem ok_fnL {n : Nat} {fl : EvA} {e : Expr} {pos : Pos} (F : Fun K x qual st f fd) (S : FnScope N ps (defScope st)) (hn : ps.length = n) (hd : defBody st = [.Return (some e) pos])
    (hbody : ∀ (cdv : Value) (A : Around) (outer : List Env) (s : Shared) (H : Hp) (E : XK), Room k (A.deeper (envOfC qual (defScope st) s.heap.objs.size f cdv)) → L2N.Takes (cxOf (L2N.CX P w) P w K mg base N qual (defScope st) f cdv A outer s H E) (JE E).W →
      PassesOwn (model P w) (cxOf (L2N.CX P w) P w K mg base N qual (defScope st) f cdv A outer s H E).A (cxOf (L2N.CX P w) P w K mg base N qual (defScope st) f cdv A outer s H E).env (cxOf (L2N.CX P w) P w K mg base N qual (defScope st) f cdv A outer s H E).xe → PE (cxOf (L2N.CX P w) P w K mg base N qual (defScope st) f cdv A outer s H E) e (tL K (JE E) fl)) :
    FnOk P w K mg base (L2N.CX P w) (k + 1) f fd ps (spL K n (fnL N.length fl)) := by
  refine okN F S (fun vs H Q E h => h.1.trans hn.symm) (fun cdv A outer s H vs Q E hr h => ?_)
  obtain ⟨hl, M, ds, r, hM, ho⟩ := h
  rw [hd]
  refine ⟨_, pss_one (ps_ret (L2.DL.PE.pre (hbody cdv A outer s H E hr tk_top hp_top))), fun kf => ?_⟩
  refine ⟨⟨M, fun _ => False, fun a o => H a = some o, fun _ _ => False⟩, _, rel_start kf hM r _ fun _ _ z => z, ?_⟩
  unfold fnL at ho
  cases hb : fl (fnStart N.length ds) with
  | error e =>
    rw [hb] at ho
    cases e with
    | stuck => exact ho
    | exc c fs ρ' => exact fun cls d H' R z => ho cls d H' (fun a o e => R.keep a o e) R.kf (z.weak fun a z => .inl z)
  | ok p =>
    rw [hb] at ho
    intro a us H' R ha hr' nm nf
    have hn : H a = none := by
      cases e : H a with
      | none => rfl
      | some o => exact absurd e (nf o)
    exact ho a us H' (fun b o e => R.keep b o e) R.kf hn ha (hr'.weak fun b z => z.elim (fun z => .inl (.inl z)) fun z => .inl (.inr z))
theorem ok_fnN {n : Nat} {fl : EvN} {e : Expr} {pos : Pos} (F : Fun K x qual st f fd) (S : FnScope N ps (defScope st)) (hn : ps.length = n) (hd : defBody st = [.Return (some e) pos])
    (hbody : ∀ (cdv : Value) (A : Around) (outer : List Env) (s : Shared) (H : Hp) (E : XK), Room k (A.deeper (envOfC qual (defScope st) s.heap.objs.size f cdv)) → L2N.Takes (cxOf (L2N.CX P w) P w K mg base N qual (defScope st) f cdv A outer s H E) (JE E).W →
      PassesOwn (model P w) (cxOf (L2N.CX P w) P w K mg base N qual (defScope st) f cdv A outer s H E).A (cxOf (L2N.CX P w) P w K mg base N qual (defScope st) f cdv A outer s H E).env (cxOf (L2N.CX P w) P w K mg base N qual (defScope st) f cdv A outer s H E).xe → PE (cxOf (L2N.CX P w) P w K mg base N qual (defScope st) f cdv A outer s H E) e (tN K (JE E) fl)) :
    FnOk P w K mg base (L2N.CX P w) (k + 1) f fd ps (spN K n (fnN N.length fl)) := by
  refine okN F S (fun vs H Q E h => h.1.trans hn.symm) (fun cdv A outer s H vs Q E hr h => ?_)
  obtain ⟨hl, M, ds, r, hM, ho⟩ := h
  rw [hd]
  refine ⟨_, pss_one (ps_ret (L2.DL.PE.pre (hbody cdv A outer s H E hr tk_top hp_top))), fun kf => ?_⟩
  refine ⟨⟨M, fun _ => False, fun a o => H a = some o, fun _ _ => False⟩, _, rel_start kf hM r _ fun _ _ z => z, ?_⟩
  unfold fnN at ho
  cases hb : fl (fnStart N.length ds) with
  | error e =>
    rw [hb] at ho
    cases e with
    | stuck => exact ho
    | exc c fs ρ' => exact fun cls d H' R z => ho cls d H' (fun a o e => R.keep a o e) R.kf (z.weak fun a z => .inl z)
  | ok p =>
    rw [hb] at ho
    intro a u H' R ha hr' nm nf
    have hn : H a = none := by
      cases e : H a with
      | none => rfl
      | some o => exact absurd e (nf o)
    exact ho a u H' (fun b o e => R.keep b o e) R.kf hn ha (hr'.weak fun b z => z.elim (fun z => .inl (.inl z)) fun z => .inl (.inr z))
theorem startB_get {N : Nat} {xs : List D} {ds : List D} {i : Nat} {s : Sl} (h : (some (Sl.own true xs) :: fnStart N ds)[i]? = some (some s)) : (i = 0 ∧ s = Sl.own true xs) ∨ ∃ j d, i = j + 1 ∧ ds[j]? = some d ∧ s = Sl.dat d := by
  cases i with
  | zero => cases h; exact .inl ⟨rfl, rfl⟩
  | succ j =>
    obtain ⟨d, h1, h2⟩ := start_get (i := j) (by simpa using h)
    exact .inr ⟨j, d, rfl, h1, h2⟩
theorem ok_fnB {n : Nat} {b : EvS} (F : Fun K x qual st f fd) (S : FnScope N ps (defScope st)) (hn : ps.length = n)
    (hbody : ∀ (cdv : Value) (A : Around) (outer : List Env) (s : Shared) (H : Hp) (E : XK), Room k (A.deeper (envOfC qual (defScope st) s.heap.objs.size f cdv)) → L2N.Takes (cxOf (L2N.CX P w) P w K mg base N qual (defScope st) f cdv A outer s H E) (JE E).W →
      PassesOwn (model P w) (cxOf (L2N.CX P w) P w K mg base N qual (defScope st) f cdv A outer s H E).A (cxOf (L2N.CX P w) P w K mg base N qual (defScope st) f cdv A outer s H E).env (cxOf (L2N.CX P w) P w K mg base N qual (defScope st) f cdv A outer s H E).xe → PSs (cxOf (L2N.CX P w) P w K mg base N qual (defScope st) f cdv A outer s H E) (defBody st) (tS K (JE E) b)) :
    FnOk P w K mg base (L2N.CX P w) (k + 1) f fd ps (spB K n (fnB N.length b)) := by
  refine okN F S (fun vs H Q E h => h.1.trans hn.symm) (fun cdv A outer s H vs Q E hr h => ?_)
  obtain ⟨hl, M, a0, bvs, vs', xs, ds, d, xs', rfl, nM, hb, rb, r, hM, hm, q⟩ := h
  refine ⟨_, L2.DL.PSs.pre (hbody cdv A outer s H E hr tk_top hp_top), fun kf => ?_⟩
  obtain ⟨⟨c, ρ'⟩, h1, h2⟩ := bnd_inv hm
  have hs : start N (V.ref a0 :: vs') = some (V.ref a0) :: (vs'.map some ++ List.replicate (N.length - 1 - vs'.length) none) := by
    unfold start
    rw [List.map_cons, List.cons_append, List.length_cons]
    rw [show N.length - (vs'.length + 1) = N.length - 1 - vs'.length from by omega]
  let G : Gh := ⟨M, fun a => a = a0, fun a o => a ≠ a0 ∧ H a = some o, fun _ _ => False⟩
  have oi : ∀ i a, OwnAt (some (Sl.own true xs) :: fnStart (N.length - 1) ds) (start N (V.ref a0 :: vs')) i a → i = 0 ∧ a = a0 := fun i a ⟨b, ys, g1, g2⟩ => by
    rcases startB_get g1 with ⟨rfl, _⟩ | ⟨j, d', rfl, _, e⟩
    · rw [hs] at g2
      cases g2
      exact ⟨rfl, rfl⟩
    · cases e
  have wk : ∀ a, MM G (some (Sl.own true xs) :: fnStart (N.length - 1) ds) (start N (V.ref a0 :: vs')) a → M a ∨ a = a0 := fun a z => z.elim .inl fun ⟨i, q⟩ => .inr (oi i a q).2
  have R : Rel K (JE E) G (some (Sl.own true xs) :: fnStart (N.length - 1) ds) (start N (V.ref a0 :: vs')) H := by
    refine ⟨?_, kf, hM, fun i d h => ?_, fun i b ys h => ?_, fun i j a h h' => (oi i a h).1.trans (oi j a h').1.symm, fun v d h => h.elim, fun a o z => z.2, fun i c fs h => ?_, fun i h => ?_, True.intro⟩
    · rw [hs]
      unfold fnStart
      rw [List.length_cons, List.length_cons, List.length_append, List.length_append, List.length_map, List.length_map, List.length_replicate, List.length_replicate, r.len]
    · rcases startB_get h with ⟨rfl, e⟩ | ⟨j, d', rfl, e, e'⟩
      · cases e
      · cases e'
        obtain ⟨v, h2, h3⟩ := r.getD e
        exact ⟨v, by rw [hs, List.getElem?_cons_succ]; exact start_val h2, h3.weak wk⟩
    · rcases startB_get h with ⟨rfl, e⟩ | ⟨j, d', rfl, e, e'⟩
      · cases e
        exact ⟨a0, .lst bvs, by rw [hs]; rfl, hb, .lst (rb.weak wk), nM, fun _ => rfl, fun o z => z.1 rfl⟩
      · cases e'
    · rcases startB_get h with ⟨rfl, e⟩ | ⟨j, d', rfl, e, e'⟩
      · cases e
      · cases e'
    · rcases startB_get h with ⟨rfl, e⟩ | ⟨j, d', rfl, e, e'⟩
      · cases e
      · cases e'
  refine ⟨G, _, R, ?_⟩
  rw [h1]
  -- the end
  have fin : ∃ ys, ρ'[0]? = some (some (Sl.own true ys)) := by
    unfold fnEndB at h2
    dsimp only at h2
    split at h2
    · rename_i ys e
      exact ⟨ys, e⟩
    · cases h2
  obtain ⟨ys, e0⟩ := fin
  have out : ∀ σ' H', Rel K (JE E) G ρ' σ' H' → ∃ bvs', (∀ a o, a ≠ a0 → H a = some o → H' a = some o) ∧ KF K H' ∧ H' a0 = some (.lst bvs') ∧ RpA K (fun a => M a ∨ a = a0) H' bvs' ys ∧ ∀ a, (M a ∨ a = a0) → MB G ρ' σ' a := fun σ' H' R' => by
    obtain ⟨a, us0, g1, g2, g3, g4, g5, g6⟩ := R'.own 0 true _ e0
    obtain ⟨us, rfl, g3'⟩ := g3.lst_inv
    have ea : a = a0 := g5 rfl
    subst ea
    refine ⟨us, fun b o n e => R'.keep b o ⟨n, e⟩, R'.kf, g2, g3'.weak fun b z => ?_, fun b z => ?_⟩
    · rcases z with z | rfl
      · exact .inl z
      · exact .inr ⟨0, _, _, e0, g1⟩
    · rcases z with z | rfl
      · exact .inl z
      · exact .inr ⟨0, _, e0, g1⟩
  unfold fnEndB at h2
  dsimp only at h2
  rw [e0] at h2
  dsimp only at h2
  cases c with
  | nx =>
    cases h2
    intro σ' H' R'
    obtain ⟨us, k1, k2, k3, k4, k5⟩ := out σ' H' R'
    exact q _ H' us k1 k2 k3 k4 .non
  | bk => cases h2
  | ct => cases h2
  | rt d' =>
    cases h2
    intro σ' v H' R' rv
    obtain ⟨us, k1, k2, k3, k4, k5⟩ := out σ' H' R'
    exact q _ H' us k1 k2 k3 k4 (rv.weak k5)
theorem Has.mk' {sp : Sp} (hm : mg x = some (.ref f)) (F : Fun K x qual st f fd) (hb : Binds K fd ps []) (h : FnOk P w K mg base (L2N.CX P w) k f fd ps sp) : Has P w K mg base k x sp := ⟨⟨f, fd, ps, hm, F.kp, hb, h⟩⟩
theorem Has.mono {sp : Sp} {j : Nat} (h : Has P w K mg base j x sp) (hj : j ≤ k) : Has P w K mg base k x sp := by
  obtain ⟨f, fd, ps, h1, h2, h3, h4⟩ := h.ex
  exact ⟨⟨f, fd, ps, h1, h2, h3, h4.mono hj⟩⟩
end
end L2.DL

namespace L2.DL
open PySem PySem.Spec PyProof.Rows

/-! ## an object by its parts -/
def oVals : HO → List V
  | .lst xs => xs
  | .dK kvs => kvs.map (·.2)
  | .dT kvs => kvs.map (·.2)
  | _ => []
def oDats : OB → List D
  | .lst xs => xs
  | .dic kvs => kvs.map (·.2)
  | .set _ => []
inductive Shp : HO → OB → Prop
  | lst {xs : List V} {ds : List D} : xs.length = ds.length → Shp (.lst xs) (.lst ds)
  | dicK {kvs : List (Key × V)} {ds : List (D × D)} : kvs.map (fun p => kD p.1) = ds.map (·.1) → Shp (.dK kvs) (.dic ds)
  | set {S : Int → Bool} {n : Nat} {xs : List Int} : (∀ i, S i = decide (i ∈ xs)) → n = xs.length → xs.Nodup → Shp (.set S n) (.set xs)
section
variable {K : PySem.W.Frag} {J : Jx} {M : Addr → Prop} {G : Gh} {ρ : DEnv} {σ : St} {H : Hp} {u : HO} {o : OB}
theorem RpK.split : ∀ {vs : List (D × V)} {ds : List (D × D)}, RpK K M H vs ds → vs.map (·.1) = ds.map (·.1) ∧ RpA K M H (vs.map (·.2)) (ds.map (·.2))
  | _, _, .nil => ⟨rfl, .nil⟩
  | _, _, .cons r t => by
    have q := t.split
    exact ⟨by simp [q.1], .cons r q.2⟩
theorem RpK.join : ∀ {vs : List (D × V)} {ds : List (D × D)}, vs.map (·.1) = ds.map (·.1) → RpA K M H (vs.map (·.2)) (ds.map (·.2)) → RpK K M H vs ds
  | [], [], _, _ => .nil
  | [], _ :: _, e, _ => by simp at e
  | _ :: _, [], e, _ => by simp at e
  | (k, v) :: vs, (k', d) :: ds, e, r => by
    simp only [List.map_cons, List.cons.injEq] at e
    obtain ⟨e1, e2⟩ := e
    subst e1
    cases r with
    | cons r t => exact .cons r (RpK.join e2 t)
theorem RpO.shp (h : RpO K M H u o) : Shp u o ∧ RpA K M H (oVals u) (oDats o) := by
  cases h with
  | lst r => exact ⟨.lst r.len, r⟩
  | dicK r => obtain ⟨h1, h2⟩ := r.split; exact ⟨.dicK (by simpa [Function.comp_def] using h1), by simpa [oVals, oDats, Function.comp_def] using h2⟩
  | set h1 h2 h3 => exact ⟨.set h1 h2 h3, .nil⟩
theorem RpO.by (s : Shp u o) (r : RpA K M H (oVals u) (oDats o)) : RpO K M H u o := by
  cases s with
  | lst _ => exact .lst r
  | dicK h => exact .dicK (RpK.join (by simpa [Function.comp_def] using h) (by simpa [oVals, oDats, Function.comp_def] using r))
  | set h1 h2 h3 => exact .set h1 h2 h3
theorem Shp.len (s : Shp u o) : (oVals u).length = (oDats o).length := by
  cases s with
  | lst h => exact h
  | dicK h => simpa [oVals, oDats] using congrArg List.length h
  | set _ _ _ => rfl
/-- an object that is held, with its parts -/
def Gh.lockO (G : Gh) (p : Addr) (u : HO) (o : OB) : Gh := { G with fx := fun a x => G.fx a x ∨ (a = p ∧ x = u), hd := fun v d => G.hd v d ∨ ∃ j : Nat, (oVals u)[j]? = some v ∧ (oDats o)[j]? = some d }
variable {p : Addr}
theorem Rel.lockO (R : Rel K J G ρ σ H) (hp : G.M p) (h : H p = some u) (r : RpO K (MM G ρ σ) H u o) : Rel K J (G.lockO p u o) ρ σ H :=
  ⟨R.len, R.kf, R.dom, R.dat, fun i b xs e => by
    obtain ⟨a, vs, h1, h2, h3, h4, h5, h6⟩ := R.own i b xs e
    exact ⟨a, vs, h1, h2, h3, h4, h5, fun o z => z.elim (h6 o) fun ⟨q, _⟩ => h4 (by rw [q]; exact hp)⟩, R.sep, fun v d z => by
    rcases z with z | ⟨j, h1, h2⟩
    · exact R.held v d z
    · obtain ⟨d', e, q⟩ := r.shp.2.get h1
      rw [h2] at e
      cases e
      exact q, fun a o z => by
    rcases z with z | ⟨rfl, rfl⟩
    · exact R.keep a o z
    · exact h, R.exn, R.raw, J.kn.fx R.kn (fun _ z => z) fun a o z => z.imp id fun ⟨_, e⟩ => by rw [e]; exact r.plain⟩
theorem Rel.unlockO (R : Rel K J (G.lockO p u o) ρ σ H) (hs : Shp u o) : Rel K J G ρ σ H ∧ H p = some u ∧ RpO K (MM G ρ σ) H u o :=
  ⟨⟨R.len, R.kf, R.dom, R.dat, fun i b xs e => by
    obtain ⟨a, vs, h1, h2, h3, h4, h5, h6⟩ := R.own i b xs e
    exact ⟨a, vs, h1, h2, h3, h4, h5, fun o z => h6 o (.inl z)⟩, R.sep, fun v d z => R.held v d (.inl z), fun a o z => R.keep a o (.inl z), R.exn, R.raw, J.kn.fx R.kn (fun _ z => z) fun a o z => .inl (.inl z)⟩, R.keep p _ (.inr ⟨rfl, rfl⟩),
    .by hs (rpA_of hs.len fun j v d h1 h2 => R.held v d (.inr ⟨j, h1, h2⟩))⟩
end

/-! ## a, b = x, y -/
inductive Ek where
  | d (f : EvF)
  | n (f : EvN)
abbrev Ek.o (f : EvA) : Ek := .n (mNL f)
abbrev EvK := DEnv → Res (List Sl × DEnv)
def tK (K : PySem.W.Frag) (J : Jx) : Ek → TE
  | .d f => tE K J f
  | .n f => tN K J f
def mK : Ek → DEnv → Res (Sl × DEnv)
  | .d f, ρ => bnd (f ρ) fun p => .ok (Sl.dat p.1, p.2)
  | .n f, ρ => bnd (f ρ) fun p => .ok (Sl.ob false p.1, p.2)
def tKs (K : PySem.W.Frag) (J : Jx) : List Ek → TA
  | [] => tNil
  | k :: ks => tCons (tK K J k) (tKs K J ks)
def mKs : List Ek → EvK
  | [], ρ => .ok ([], ρ)
  | k :: ks, ρ => bnd (mK k ρ) fun p => bnd (mKs ks p.2) fun q => .ok (p.1 :: q.1, q.2)
def Pend (K : PySem.W.Frag) (J : Jx) (ρ : DEnv) (σ : St) (H : Hp) : Gh → List V → List Sl → Prop
  | G, [], [] => Rel K J G ρ σ H
  | G, v :: vs, Sl.dat d :: ss => Pend K J ρ σ H (G.hold v d) vs ss
  | G, v :: vs, Sl.ob b o :: ss => ∃ a u, v = .ref a ∧ b = false ∧ ¬ G.M a ∧ (∀ o, ¬ G.fx a o) ∧ Shp u o ∧ Pend K J ρ σ H ((G.add a).lockO a u o) vs ss
  | _, _, _ => False
def setAll {α : Type} : List Nat → List α → List (Option α) → List (Option α)
  | i :: is, s :: ss, ρ => (setAll is ss ρ).set i (some s)
  | _, _, ρ => ρ
theorem setAll_len {α : Type} : ∀ (is : List Nat) (ss : List α) (ρ : List (Option α)), (setAll is ss ρ).length = ρ.length
  | [], _, _ => by simp [setAll]
  | _ :: _, [], _ => by simp [setAll]
  | i :: is, s :: ss, ρ => by simp [setAll, setAll_len is ss ρ]
section
variable {K : PySem.W.Frag} {J : Jx} {σ : St}
theorem wE_lockO {G : Gh} {a : Addr} {u : HO} {o : OB} {c : Str} {fs : List (Str × D)} {ρ : DEnv} (hs : Shp u o) (h : wE K J G σ c fs ρ) : wE K J ((G.add a).lockO a u o) σ c fs ρ := fun cls d H' R z => h cls d H' (R.unlockO hs).1.unadd (z.weak fun b q => mm_add.mpr (.inl q))
theorem rd_par {α : Type} : ∀ (ks : List Ek) {G : Gh} {ρ : DEnv} {H : Hp} {f : List Sl × DEnv → Res α} {kk : α → Prop} {Q : List V → Hp → Prop}, Rel K J G ρ σ H → Out (wE K J G σ) (bnd (mKs ks ρ) f) kk →
    (∀ ss ρ' vs H', Out (fun _ _ _ => True) (f (ss, ρ')) kk → Pend K J ρ' σ H' G vs ss → Q vs H') → tKs K J ks σ H Q
  | [], G, ρ, H, f, kk, Q, R, h, q => q [] ρ [] H (h.imp (fun _ _ _ _ => trivial) fun _ z => z) R
  | .d g :: ks, G, ρ, H, f, kk, Q, R, h, q => by
    have e : bnd (mKs (.d g :: ks) ρ) f = bnd (g ρ) fun p => bnd (mKs ks p.2) fun q => f (Sl.dat p.1 :: q.1, q.2) := by
      show bnd (bnd (bnd (g ρ) _) _) f = _
      cases g ρ with
      | error e => rfl
      | ok p => cases hk : mKs ks p.2 with
        | error e => simp [hk]
        | ok q => simp [hk]
    rw [e] at h
    refine ⟨G, ρ, R, h.bnd fun p h v H1 R1 r1 => ?_⟩
    exact rd_par ks (f := fun q => f (Sl.dat p.1 :: q.1, q.2)) (R1.hold r1) h.hold fun ss ρ' vs H' hh pd => q _ ρ' (v :: vs) H' hh pd
  | .n g :: ks, G, ρ, H, f, kk, Q, R, h, q => by
    have e : bnd (mKs (.n g :: ks) ρ) f = bnd (g ρ) fun p => bnd (mKs ks p.2) fun q => f (Sl.ob false p.1 :: q.1, q.2) := by
      show bnd (bnd (bnd (g ρ) _) _) f = _
      cases g ρ with
      | error e => rfl
      | ok p => cases hk : mKs ks p.2 with
        | error e => simp [hk]
        | ok q => simp [hk]
    rw [e] at h
    refine ⟨G, ρ, R, h.bnd fun p h a u H1 R1 ha hx hM hf => ?_⟩
    have hs := hx.shp.1
    exact rd_par ks (f := fun q => f (Sl.ob false p.1 :: q.1, q.2)) (R1.lockO (.inr rfl) ha hx) (h.imp (fun _ _ _ z => wE_lockO hs z) fun _ z => z) fun ss ρ' vs H' hh pd => q _ ρ' (.ref a :: vs) H' hh ⟨a, u, rfl, rfl, fun z => hM (.inl z), hf, hs, pd⟩
theorem pend_set {ρ : DEnv} {H : Hp} : ∀ (is : List Nat) {G : Gh} {vs : List V} {ss : List Sl}, Pend K J ρ σ H G vs ss → is.length = ss.length → (∀ i ∈ is, i < ρ.length) → Rel K J G (setAll is ss ρ) (setAll is vs σ) H
  | [], G, vs, ss, h, e, _ => by
    cases ss with
    | nil => cases vs with
      | nil => exact h
      | cons v vs => exact h.elim
    | cons s ss => cases e
  | i :: is, G, vs, ss, h, e, hl => by
    cases ss with
    | nil => cases e
    | cons s ss =>
      cases vs with
      | nil => cases s <;> exact h.elim
      | cons v vs =>
        have hi : i < (setAll is ss ρ).length := by rw [setAll_len]; exact hl i List.mem_cons_self
        have hl' : ∀ j ∈ is, j < ρ.length := fun j hj => hl j (List.mem_cons_of_mem _ hj)
        have e' : is.length = ss.length := by simpa using e
        cases s with
        | dat d =>
          obtain ⟨R, r⟩ := (pend_set is (show Pend K J ρ σ H (G.hold v d) vs ss from h) e' hl').unhold
          exact R.set hi r
        | ob b o =>
          obtain ⟨a, u, rfl, rfl, nM, nf, hs, h⟩ := h
          obtain ⟨R, ha, r⟩ := (pend_set is h e' hl').unlockO hs
          refine R.setOb hi ha r ?_ nf
          rintro (z | ⟨j, b, ys, g1, g2⟩)
          · exact nM z
          · obtain ⟨c, us, k1, _, _, k4, _⟩ := R.own j b ys g1
            rw [g2] at k1
            cases k1
            exact k4 (.inr rfl)
        | exn c fs => exact h.elim
        | raw => exact h.elim
end
section
variable {X : Cx} {J : Jx} {pos : Pos}
def mPar (is : List Nat) (ks : List Ek) : EvS := fun ρ => bnd (mKs ks ρ) fun p => if is.length = p.1.length ∧ ∀ i ∈ is, i < p.2.length then .ok (.nx, setAll is p.1 p.2) else stuck
theorem pa_ks0 : PA X [] (tKs X.K J []) := pa_nil
theorem pend_len {ρ : DEnv} {σ : St} {H : Hp} : ∀ {vs : List V} {ss : List Sl} {G : Gh}, Pend X.K J ρ σ H G vs ss → vs.length = ss.length
  | [], [], _, _ => rfl
  | [], .dat _ :: _, _, h => h.elim
  | [], .ob _ _ :: _, _, h => h.elim
  | [], .exn _ _ :: _, _, h => h.elim
  | [], .raw :: _, _, h => h.elim
  | _ :: _, [], _, h => h.elim
  | v :: vs, .dat d :: ss, G, h => congrArg (· + 1) (pend_len (G := G.hold v d) h)
  | v :: vs, .ob b o :: ss, G, h => by
    obtain ⟨a, u, _, _, _, _, _, h⟩ := h
    exact congrArg (· + 1) (pend_len h)
  | v :: vs, .exn _ _ :: ss, G, h => h.elim
  | v :: vs, .raw :: ss, G, h => h.elim
theorem rdp {is : List Nat} {ks : List Ek} {E : Ends} {σ : St} {H : Hp} {Q : List V → Hp → Prop} (h : tS X.K J (mPar is ks) E σ H) (k : ∀ vs H', vs.length = is.length → E.nx (setAll is vs σ) H' → Q vs H') : tKs X.K J ks σ H Q := by
  obtain ⟨G, ρ, R, h⟩ := h
  refine rd_par ks R h.e fun ss ρ1 vs H' h p => ?_
  dsimp only at h
  split at h
  · rename_i hc
    obtain ⟨hl, hi⟩ := hc
    exact k vs H' ((pend_len p).trans hl.symm) (h _ _ (pend_set is p hl hi))
  · exact h.elim
theorem set_comm' {α : Type} {l : List α} {i j : Nat} {x y : α} (h : i ≠ j) : (l.set j y).set i x = (l.set i x).set j y := List.set_comm y x (fun e => h e.symm)
theorem ds_par (i j : Nat) {x y : Str} {a b : Expr} {k1 k2 : Ek} {px py pt : Pos} {kt k2' pt2} (hc : X.calm = true) (hN : X.N.Nodup) (ha : PE X a (tK X.K J k1)) (hb : PE X b (tK X.K J k2)) (hi : X.N[i]? = some x := by rfl) (hj : X.N[j]? = some y := by rfl) (hij : i ≠ j := by decide)
    (hx : X.env.scope.names.lookup x = some .local := by rfl) (hy : X.env.scope.names.lookup y = some .local := by rfl)
    (hw : swappedStores [.Tuple [.Name x px, .Name y py] kt pt] (.Tuple [a, b] k2' pt2) X.env = pure (some [x, y]) := by rfl)
    (hs : swapsWithSole [.Tuple [.Name x px, .Name y py] kt pt] (.Tuple [a, b] k2' pt2) pos.line X.env = pure false := by rfl)
    (e1 : starEach [a, b] X.env = (false, eval a X.env) :: starEach [b] X.env := by rfl) (e2 : starEach [b] X.env = (false, eval b X.env) :: starEach [] X.env := by rfl) :
    PS X (.Assign [.Tuple [.Name x px, .Name y py] kt pt] (.Tuple [a, b] k2' pt2) pos) (tS X.K J (mPar [i, j] [k1, k2])) := by
  refine PS.imp (ps_par (ta := tKs X.K J [k1, k2]) hc hN hi hj hij hx hy (pa_cons ha (pa_cons hb pa_ks0 e2) e1) hw hs) fun E σ H h => ?_
  refine rdp h fun vs H' e q => ?_
  match vs, e, q with
  | [v, w], _, q => exact ⟨v, w, rfl, by rw [← set_comm' hij]; exact q⟩
end
end L2.DL

namespace L2.DL
open PySem PySem.Spec PyProof.Rows

/-! ## iterators over a list or a tuple -/
def IterAt (t : Bool) (h : Heap) (it a : Addr) (i : Nat) : Prop := if t = true then h.IsTupleIter it a i else h.IsListIter it a i
def SeqAt (t : Bool) (h : Heap) (a : Addr) (items : Array Value) : Prop := if t = true then h.IsTuple a items else h.IsList a items
def itObj (t : Bool) (a : Addr) : Obj := { cls := .type (if t = true then "tuple_iterator" else "list_iterator"), data := .fields #[.ref a, .int 0 0] }
theorem itObj_at {t : Bool} {h : Heap} {it a : Addr} (e : h.get? it = some (itObj t a)) : IterAt t h it a 0 := by
  unfold IterAt
  cases t with
  | true => rw [if_pos rfl]; exact ⟨_, e, rfl, rfl⟩
  | false => rw [if_neg Bool.false_ne_true]; exact ⟨_, e, rfl, rfl⟩
theorem IterAt.obj {t : Bool} {h : Heap} {it a : Addr} {i : Nat} (e : IterAt t h it a i) : ∃ o, h.get? it = some o ∧ ∀ v, o.data ≠ .cell v := by
  unfold IterAt at e
  cases t with
  | true => rw [if_pos rfl] at e; obtain ⟨o, ho, _, hd⟩ := e; exact ⟨o, ho, fun v q => by rw [hd] at q; cases q⟩
  | false => rw [if_neg Bool.false_ne_true] at e; obtain ⟨o, ho, _, hd⟩ := e; exact ⟨o, ho, fun v q => by rw [hd] at q; cases q⟩
theorem IterAt.at {t : Bool} {h h' : Heap} {it a : Addr} {i : Nat} (e : IterAt t h it a i) (k : ∀ o, h.get? it = some o → h'.get? it = some o) : IterAt t h' it a i := by
  unfold IterAt at e ⊢
  cases t with
  | true => rw [if_pos rfl] at e ⊢; exact Heap.IsTupleIter.at e k
  | false => rw [if_neg Bool.false_ne_true] at e ⊢; exact Heap.IsListIter.at e k
theorem IterAt.lt {t : Bool} {h : Heap} {it a : Addr} {i : Nat} (e : IterAt t h it a i) : it < h.objs.size := by
  obtain ⟨o, ho, _⟩ := e.obj
  exact Heap.lt_size ho
theorem SeqAt.at {t : Bool} {h h' : Heap} {a : Addr} {items : Array Value} (e : SeqAt t h a items) (k : ∀ o, h.get? a = some o → h'.get? a = some o) : SeqAt t h' a items := by
  unfold SeqAt at e ⊢
  cases t with
  | true => rw [if_pos rfl] at e ⊢; exact Heap.IsTuple.at e k
  | false => rw [if_neg Bool.false_ne_true] at e ⊢; exact Heap.IsList.at e k
theorem SeqAt.lt {t : Bool} {h : Heap} {a : Addr} {items : Array Value} (e : SeqAt t h a items) : a < h.objs.size := by
  unfold SeqAt at e
  cases t with
  | true => rw [if_pos rfl] at e; obtain ⟨_, e, _⟩ := e; exact Heap.lt_size e
  | false => rw [if_neg Bool.false_ne_true] at e; obtain ⟨_, e, _⟩ := e; exact Heap.lt_size e
theorem draws_sq {t : Bool} {prog : Program} {w : World} {A : Around} (hh : A.handled = none) (it a : Addr) (hne : a ≠ it) (items : Array Value) :
    Draws prog w A it [it, a] items.size (fun i v => items[i]? = some v) (fun i h => IterAt t h it a i ∧ SeqAt t h a items) := by
  unfold IterAt SeqAt
  cases t with
  | true => simp only [if_pos]; exact Draws.tuple hh it a hne items
  | false => simp only [if_neg Bool.false_ne_true]; exact Draws.list hh it a hne items
theorem begins_sq (t : Bool) (a : Addr) (items : Array Value) : Begins (.ref a) (itObj t a) fun h => SeqAt t h a items := by
  unfold itObj SeqAt
  cases t with
  | true => simp only [if_pos]; exact begins_tuple a items
  | false => simp only [if_neg Bool.false_ne_true]; exact begins_list a items
theorem inv_sq {X : Cx} {pins : List (Addr × Obj)} {σ : St} {H : Hp} {s : Shared} {t : Bool} {a : Addr} {xs : List V} (I : Inv X pins σ H s) (h : IsSq X.K H t a xs) : ∃ its : List Value, Vals xs its ∧ SeqAt t s.heap a its.toArray ∧ xs.length ≤ sizeLine := by
  unfold IsSq at h
  unfold SeqAt
  cases t with
  | true => rw [if_pos rfl] at h; obtain ⟨its, rv, p, hz⟩ := I.tuple h; exact ⟨its, rv, by rw [if_pos rfl]; exact p, hz⟩
  | false => rw [if_neg Bool.false_ne_true] at h; obtain ⟨its, rv, p, hz⟩ := I.list h; exact ⟨its, rv, by rw [if_neg Bool.false_ne_true]; exact p.isList, hz⟩
theorem inv_sq_inj {X : Cx} {pins : List (Addr × Obj)} {σ : St} {H : Hp} {s : Shared} {t : Bool} {a : Addr} {xs ys : List V} (I : Inv X pins σ H s) (h : IsSq X.K H t a xs) (h' : IsSq X.K H t a ys) : xs = ys := by
  unfold IsSq at h h'
  cases t with
  | true => rw [if_pos rfl] at h h'; exact I.tuple_inj h h'
  | false => rw [if_neg Bool.false_ne_true] at h h'; exact I.list_inj h h'

/-! ## enumerate -/
set_option maxHeartbeats 4000000 in
theorem meets_enum1 {v : Value} {o : Obj} {H : Heap → Prop} (B : Begins v o H) :
    Meets (Builtin.«enumerate.__new__» ⟨[.type "enumerate", v], []⟩) (fun _ R s => H s.heap ∧
      R (.ok (.ret (.ref (s.heap.push o).objs.size))) { s with heap := (s.heap.push o).push { cls := .type "enumerate", data := .fields #[.none, .bool false, .ref s.heap.objs.size, rawInt 0, .none, .none] } }) :=
  .of_wp fun prog w A R s h => by
    obtain ⟨hp, g, d, tk, os⟩ := s; obtain ⟨h1, h⟩ := h
    have hsub := sub_enumerate
    have q1 : ∀ {A' : Around} {E : Value → Shared → Prop} {Q : Value → Shared → Prop}, Q (.ref hp.objs.size) ⟨hp.push o, g, d, tk, os⟩ → wpAny (model prog w) A' (pyIter v) Q E ⟨hp, g, d, tk, os⟩ :=
      fun q => B.iter prog w _ _ ⟨hp, g, d, tk, os⟩ _ h1 q
    wp_walk using q1
    refine wpAny_stack_any fun st => wpAny_pure ?_
    split
    · rename_i c _ _ _ _ _
      cases (c == Value.type "enumerate")
      · wp_walk using q1
        exact ⟨_, rfl, h⟩
      · wp_walk using q1
        exact ⟨_, rfl, h⟩
    · wp_walk using q1
      exact ⟨_, rfl, h⟩

section
variable {prog : Program} {w : World} {A : Around} {E : Value → Shared → Prop} {s : Shared}
theorem call_enum_sq {t : Bool} {a : Addr} {items : Array Value} {Q : Value → Shared → Prop} (h1 : SeqAt t s.heap a items)
    (h : ∀ h', IsEnum h' (s.heap.objs.size + 1) s.heap.objs.size 0 .none → IterAt t h' s.heap.objs.size a 0 → h'.objs.size = s.heap.objs.size + 2 →
      (∀ b o, s.heap.get? b = some o → h'.get? b = some o) → Q (.ref (s.heap.objs.size + 1)) { s with heap := h' }) :
    wpAny (model prog w) A (call (.type "enumerate") [.ref a]) Q E s := by
  refine callType_new F.called_enumerate (by decide) (F.typeCall_enumerate_1 _) (F.newCall_enumerate_1 _) (fun obj => F.args_object_init_2 obj _) F.entry_enumerate_new
    (meets_enum1 (begins_sq t a items)) ⟨h1, ?_⟩
  have hz : (s.heap.push (itObj t a)).objs.size = s.heap.objs.size + 1 := Heap.size_push ..
  show _ ∧ _
  rw [hz]
  have he : IsEnum ((s.heap.push (itObj t a)).push { cls := .type "enumerate", data := .fields #[.none, .bool false, .ref s.heap.objs.size, rawInt 0, .none, .none] }) (s.heap.objs.size + 1) s.heap.objs.size 0 .none := by
    have := Heap.get?_push_size (s.heap.push (itObj t a)) (o := { cls := .type "enumerate", data := .fields #[.none, .bool false, .ref s.heap.objs.size, rawInt 0, .none, .none] }) rfl
    rw [hz] at this; exact this
  refine ⟨⟨_, he, rfl⟩, h _ he (itObj_at (Heap.get?_push_of_some _ (Heap.get?_push_size _ rfl))) (by rw [Heap.size_push, hz]) fun b o x => Heap.get?_push_of_some _ (Heap.get?_push_of_some _ x)⟩
end
/-- the list or tuple at a as it stands at each turn, each item in a new pair -/
def IteS (K : PySem.W.Frag) (t : Bool) (a : Addr) : It :=
  ⟨fun i H => ∃ (xs : List V) (x : V), IsSq K H t a xs ∧ xs[i]? = some x, fun i H v H' => ∃ T x, v = .ref T ∧ H T = none ∧ H' = upd H T (.tup [.int (i : Nat), x]) ∧ ∀ xs, IsSq K H t a xs → xs[i]? = some x,
    fun i H => ∃ xs : List V, IsSq K H t a xs ∧ xs.length = i⟩
theorem turn_enumS {P : Program} {w : World} {K : PySem.W.Frag} {elts : List Expr} {kk : Nat} {tpos : Pos} (t : Bool) (a e it : Addr) (hea : e ≠ a) (hia : a ≠ it) :
    Turn P w K (.Tuple elts kk tpos) (IteS K t a) [e, it] e (fun i h => (∃ old, IsEnum h e it ((i : Nat) : Int) old) ∧ IterAt t h it a i ∧ e ≠ it) where
  mem := by simp
  obj := fun i h st b hb => by
    obtain ⟨⟨old, he⟩, hi, _⟩ := st
    have e' : b = e ∨ b = it := by simpa using hb
    rcases e' with z | z
    · rw [z]; exact ⟨_, he, fun v q => nomatch q⟩
    · rw [z]; exact hi.obj
  keep := fun i h h' st k => let ⟨⟨old, he⟩, hi, hne⟩ := st; ⟨⟨old, k e (by simp) _ he⟩, hi.at fun o q => k it (by simp) o q, hne⟩
  item := by
    intro X hP hw hK hc i pins s σ H E I hf st hg
    subst hP hw hK
    obtain ⟨⟨old, he⟩, hit, hne⟩ := st
    obtain ⟨xs, x, hq, hx⟩ := hg
    obtain ⟨its, rv, p, hz⟩ := inv_sq I hq
    obtain ⟨u, hu, ru⟩ := rv.get hx
    have hel : e < s.heap.objs.size := Heap.lt_size he
    have hil : it < s.heap.objs.size := hit.lt
    have hlt : i < its.toArray.size := by simpa using (List.getElem?_eq_some_iff.mp hu).1
    refine wpAny_pyNext_enum_itemC (draws_sq (t := t) (prog := X.prog) (w := X.w) (A := X.A.in1) (show X.A.in1.handled = none from I.ok.hd hc) it a hia its.toArray) he ⟨hit, p⟩ hlt hne (by simp [hne, hea]) fun x' h' tk hP ho hit' hT hsz hk => ?_
    have ex : x' = u := by
      have : its[i]? = some x' := by simpa using hP
      rw [hu] at this
      exact (Option.some.inj this).symm
    subst ex
    refine ⟨_, rfl, wpAny_letOwnedTupleGo_enum (s := { s with heap := h', toks := tk + 1 }) ho fun h'' he' sb => ?_⟩
    have hT2 : h''.get? s.heap.objs.size = some { cls := .type "tuple", data := .seq #[.int i tk, x'] } := (sb.2 _ (Nat.ne_of_gt hel)).trans hT
    have new : ObjOk X.prog X.w (upd H s.heap.objs.size (.tup [.int (i : Nat), x])) h'' s.heap.objs.size (.tup [.int (i : Nat), x]) :=
      ⟨by show 2 ≤ sizeLine; decide, [.int i tk, x'], .cons ⟨_, rfl⟩ (.cons ru .nil), ⟨_, hT2, rfl, _, rfl⟩⟩
    have I1 : Inv X pins σ (upd H s.heap.objs.size (.tup [.int (i : Nat), x])) { s with heap := h'', toks := tk + 1 } :=
      I.turnedNew (ch := [e, it]) (fun b ob hb q => (sb.2 b (fun z => hb (by simp [z]))).trans (hk b ob (fun z => hb (by simp [z])) (fun z => hb (by simp [z])) q)) hf (Nat.le_refl _) new
    refine ⟨.ref s.heap.objs.size, _, I1, rfl, ⟨_, x, rfl, I.hok.fresh (Nat.le_refl _), rfl, fun ys hy => by rw [inv_sq_inj I hy hq]; exact hx⟩, ⟨⟨x', ?_⟩, hit'.1.at fun o q => (sb.2 it (Ne.symm hne)).trans q, hne⟩, fun b hb => ?_⟩
    · have e1 : ((i + 1 : Nat) : Int) = (i : Int) + 1 := by omega
      rw [e1]; exact he'
    · have hb' : b < s.heap.objs.size := by
        have e' : b = e ∨ b = it := by simpa using hb
        rcases e' with z | z
        · rw [z]; exact hel
        · rw [z]; exact hil
      rw [upd_ne (Nat.ne_of_lt hb')]
      exact (hf b hb).1
  done := by
    intro X hP hw hK hc i pins s σ H E I hf st hg
    subst hP hw hK
    obtain ⟨⟨old, he⟩, hit, hne⟩ := st
    obtain ⟨xs, hq, hx⟩ := hg
    obtain ⟨its, rv, p, hz⟩ := inv_sq I hq
    obtain ⟨f0, f1, f2, f3, f4, f5⟩ := hf it (by simp)
    have hl := rv.length
    have hn : i = its.toArray.size := by simp; omega
    subst hn
    exact wpAny_pyNext_enum_endD (draws_sq (t := t) (prog := X.prog) (w := X.w) (A := X.A.in1) (show X.A.in1.handled = none from I.ok.hd hc) it a hia its.toArray) he ⟨hit, p⟩ fun h' eb => ⟨rfl, I.turned (t' := s.toks) (fun b o hb q => eb b o hb q) f0 f1 f3 f4 f5⟩
  self := fun A i s Q E st h => let ⟨⟨_, he⟩, _⟩ := st; wpAny_pyIter_enum he h
def iEnumS (K : PySem.W.Frag) (ta : TA) : TI := fun σ H R => ta σ H fun vs H1 => ∃ t a xs, vs = [.ref a] ∧ IsSq K H1 t a xs ∧ R (IteS K t a) H1
theorem pi_enumS {X : Cx} {e : Expr} {ta : TA} {p pos tpos : Pos} {elts : List Expr} {kk : Nat} (hg : Gl X "enumerate") (hm : X.mg "enumerate" = none) (ha : PA X [e] ta) (hs : starEach [e] X.env = [(false, eval e X.env)] := by rfl) :
    PI X (.Tuple elts kk tpos) (.Call (.Name "enumerate" p) [e] [] pos) (iEnumS X.K ta) := by
  refine ⟨fun pins s σ H R I h => ?_⟩
  refine Call_ (ld_blt I hg hm boot_enumerate (PyProof.Rows.callWith_type1 (thn (ha.run pos pins s σ H _ I h) fun us s1 ⟨vs, H1, I1, r1, q1⟩ => ?_) hs rfl))
  obtain ⟨t, a, xs, ex, hq, q⟩ := q1
  subst ex
  cases r1 with
  | cons r rr =>
    cases rr
    cases r
    obtain ⟨its, rv, p', hz⟩ := inv_sq I1 hq
    have hal := p'.lt
    refine call_enum_sq p' fun h' he hit hsz hk => wpAny_pyIter_enum he ?_
    have I2 : Inv X pins σ H1 { s1 with heap := h' } := I1.kept (t' := s1.toks) hk
    refine ⟨s1.heap.objs.size + 1, [s1.heap.objs.size + 1, s1.heap.objs.size], _, _, H1, rfl, I2, turn_enumS t a (s1.heap.objs.size + 1) s1.heap.objs.size (Nat.ne_of_gt (Nat.lt_succ_of_lt hal)) (Nat.ne_of_lt hal), ⟨⟨.none, he⟩, hit, Nat.succ_ne_self _⟩, fun b hb => ?_, q⟩
    have e' : b = s1.heap.objs.size + 1 ∨ b = s1.heap.objs.size := by simpa using hb
    have hle : s1.heap.objs.size ≤ b := by
      rcases e' with z | z
      · rw [z]; exact Nat.le_add_right _ _
      · rw [z]; exact Nat.le_refl _
    exact I1.fpOk hle (I1.hok.fresh hle)
def enumL (xs : List D) : List D := xs.zipIdx.map fun p => PyData.tuple [.int (p.2 : Nat), p.1]
theorem enumL_len {xs : List D} : (enumL xs).length = xs.length := by unfold enumL; rw [List.length_map, List.length_zipIdx]
theorem enumL_get {xs : List D} {i : Nat} {d : D} (h : xs[i]? = some d) : (enumL xs)[i]? = some (.tuple [.int (i : Nat), d]) := by
  unfold enumL
  rw [List.getElem?_map, List.getElem?_zipIdx, h]
  simp
/-- a list or a tuple, as what is held of it says -/
theorem held_sq {K : PySem.W.Frag} {M : Addr → Prop} {H : Hp} {a : Addr} {d : D} {z : Bool × List D} (h : Rp K M H (.ref a) d) (hz : seqD d = .ok z) : ∃ vs, IsSq K H z.1 a vs ∧ RpA K M H vs z.2 := by
  cases d with
  | list xs =>
    cases hz
    obtain ⟨a', vs, e, _, q, r⟩ := h.list_inv
    cases e
    exact ⟨vs, by unfold IsSq; rw [if_neg Bool.false_ne_true]; exact q, r⟩
  | tuple xs =>
    cases hz
    obtain ⟨a', vs, e, _, q, r⟩ := h.tup_inv
    cases e
    exact ⟨vs, by unfold IsSq; rw [if_pos rfl]; exact q, r⟩
  | _ => cases hz
theorem held_ref {K : PySem.W.Frag} {M : Addr → Prop} {H : Hp} {v : V} {d : D} {z : Bool × List D} (h : Rp K M H v d) (hz : seqD d = .ok z) : ∃ a, v = .ref a := by
  cases d with
  | list xs => obtain ⟨a, vs, e, _⟩ := h.list_inv; exact ⟨a, e⟩
  | tuple xs => obtain ⟨a, vs, e, _⟩ := h.tup_inv; exact ⟨a, e⟩
  | _ => cases hz
theorem rp_pair {K : PySem.W.Frag} {M : Addr → Prop} {H : Hp} {T : Addr} {x y : V} {d e : D} (hT : H T = none) (hM : ∀ a, M a → H a ≠ none) (hx : Rp K M H x d) (hy : Rp K M H y e) : Rp K M (upd H T (.tup [x, y])) (.ref T) (.tuple [d, e]) :=
  .tup (nM hM hT) (SqT.of upd_same) (.cons (hx.same (Same.upd hT)) (.cons (hy.same (Same.upd hT)) .nil))
theorem yields_enum {K : PySem.W.Frag} {G : Gh} {a : Addr} {d : D} {z : Bool × List D} (hz : seqD d = .ok z) : Yields K (G.hold (.ref a) d).hd (IteS K z.1 a) (enumL z.2) := by
  intro M H hh
  obtain ⟨vs, q, r⟩ := held_sq (hh _ _ (.inr ⟨rfl, rfl⟩)) hz
  rw [enumL_len]
  refine ⟨fun i hi => ?_, ⟨vs, q, r.len⟩, fun i x H' hi y => ?_⟩
  · have hi' : i < vs.length := by rw [r.len]; exact hi
    exact ⟨vs, vs[i], q, by simp [hi']⟩
  · obtain ⟨T, u, rfl, hT, rfl, hu⟩ := y
    obtain ⟨e, h1, h2⟩ := r.get (hu vs q)
    exact ⟨Same.upd hT, _, enumL_get h1, fun hM => rp_pair hT hM (.int _) h2⟩
section
variable {X : Cx} {J : Jx} {e e2 : Expr} {fe fa fb : EvF} {p pos tpos : Pos} {elts : List Expr} {kk : Nat}
def mEnum (f : EvF) : EvA := fun ρ => bnd (f ρ) fun p => bnd (pur (seqD p.1)) fun z => .ok (enumL z.2, p.2)
theorem di_enum (hm : X.mg "enumerate" = none) (he : PE X e (tE X.K J fe)) (hg : Gl X "enumerate" := by rfl) (hs : starEach [e] X.env = [(false, eval e X.env)] := by rfl) (hs1 : starEach (e :: []) X.env = (false, eval e X.env) :: starEach [] X.env := by rfl) :
    PI X (.Tuple elts kk tpos) (.Call (.Name "enumerate" p) [e] [] pos) (tI X.K J (mEnum fe)) := by
  refine PI.imp (pi_enumS hg hm (pa_cons he pa_nil hs1) hs) ?_
  rintro σ H Rr ⟨G, ρ, R, h⟩
  refine ⟨G, ρ, R, h.bnd fun p h x H1 R1 r1 => ?_⟩
  obtain ⟨z, h2, h⟩ := h.pur
  obtain ⟨a, rfl⟩ := held_ref r1 h2
  obtain ⟨vs, q, r⟩ := held_sq r1 h2
  exact ⟨z.1, a, vs, rfl, q, h _ _ _ (R1.hold r1) (Ext.hold _ _ _) (yields_enum h2)⟩
end
end L2.DL

namespace L2.DL
open PySem PySem.Spec PyProof.Rows

/-! ## zip -/
def ItzS (K : PySem.W.Frag) (t1 t2 : Bool) (a b : Addr) : It :=
  ⟨fun i H => ∃ (xs ys : List V) (x y : V), IsSq K H t1 a xs ∧ IsSq K H t2 b ys ∧ xs[i]? = some x ∧ ys[i]? = some y,
    fun i H v H' => ∃ T x y, v = .ref T ∧ H T = none ∧ H' = upd H T (.tup [x, y]) ∧ (∀ xs, IsSq K H t1 a xs → xs[i]? = some x) ∧ ∀ ys, IsSq K H t2 b ys → ys[i]? = some y,
    fun i H => ∃ xs ys : List V, IsSq K H t1 a xs ∧ IsSq K H t2 b ys ∧ i ≤ xs.length ∧ i ≤ ys.length ∧ (i = xs.length ∨ i = ys.length)⟩
theorem turn_zipS {P : Program} {w : World} {K : PySem.W.Frag} {elts : List Expr} {kk : Nat} {tpos : Pos} (t1 t2 : Bool) {a b z TI TO i1 i2 : Addr} (D : ZipSep2 z TI TO i1 i2 [i1, a] [i2, b]) (h1a : a ≠ i1) (h2b : b ≠ i2) :
    Turn P w K (.Tuple elts kk tpos) (ItzS K t1 t2 a b) [z, TI, TO, i1, i2] z (fun i h => IsZip h z TI TO .none ∧ IsTupOf2 h TI (.ref i1) (.ref i2) ∧ (∃ x y, IsTupOf2 h TO x y) ∧ IterAt t1 h i1 a i ∧ IterAt t2 h i2 b i) where
  mem := by simp
  obj := fun i h st c hc => by
    obtain ⟨hz, hTI, ⟨x, y, hTO⟩, h1, h2⟩ := st
    have e' : c = z ∨ c = TI ∨ c = TO ∨ c = i1 ∨ c = i2 := by simpa using hc
    rcases e' with q | q | q | q | q
    · rw [q]; exact ⟨_, hz, fun v q => nomatch q⟩
    · rw [q]; exact ⟨_, hTI, fun v q => nomatch q⟩
    · rw [q]; exact ⟨_, hTO, fun v q => nomatch q⟩
    · rw [q]; exact h1.obj
    · rw [q]; exact h2.obj
  keep := fun i h h' st k => by
    obtain ⟨hz, hTI, ⟨x, y, hTO⟩, h1, h2⟩ := st
    exact ⟨k z (by simp) _ hz, k TI (by simp) _ hTI, ⟨x, y, k TO (by simp) _ hTO⟩, h1.at fun o q => k i1 (by simp) o q, h2.at fun o q => k i2 (by simp) o q⟩
  item := by
    intro X hP hw hK hc i pins s σ H E I hf st hg
    subst hP hw hK
    obtain ⟨hz, hTI, ⟨x0, y0, hTO⟩, h1, h2⟩ := st
    obtain ⟨xs, ys, x, y, hqx, hqy, hx, hy⟩ := hg
    obtain ⟨its, rv, p, _⟩ := inv_sq I hqx
    obtain ⟨its2, rv2, p2, _⟩ := inv_sq I hqy
    obtain ⟨u, hu, ru⟩ := rv.get hx
    obtain ⟨u2, hu2, ru2⟩ := rv2.get hy
    have hzl : z < s.heap.objs.size := Heap.lt_size hz
    have l1 : i < its.toArray.size := by simpa using (List.getElem?_eq_some_iff.mp hu).1
    have l2 : i < its2.toArray.size := by simpa using (List.getElem?_eq_some_iff.mp hu2).1
    have hh : X.A.in1.handled = none := I.ok.hd hc
    refine wpAny_pyNext_zipD2_item D (draws_sq (t := t1) (prog := X.prog) (w := X.w) hh i1 a h1a its.toArray) (draws_sq (t := t2) (prog := X.prog) (w := X.w) hh i2 b h2b its2.toArray) hz hTI hTO ⟨h1, p⟩ ⟨h2, p2⟩ l1 l2 fun x1 x2 h' tk P1 P2 z' TO' st1' st2' hT hsz hk => ?_
    have e1 : x1 = u := by
      have : its[i]? = some x1 := by simpa using P1
      rw [hu] at this
      exact (Option.some.inj this).symm
    have e2 : x2 = u2 := by
      have : its2[i]? = some x2 := by simpa using P2
      rw [hu2] at this
      exact (Option.some.inj this).symm
    subst e1 e2
    refine ⟨_, rfl, wpAny_letOwnedTupleGo_zip (s := { s with heap := h', toks := tk }) z' fun h'' z'' sb => ?_⟩
    have hT2 : h''.get? s.heap.objs.size = some { cls := .type "tuple", data := .seq #[x1, x2] } := (sb.2 _ (Nat.ne_of_gt hzl)).trans hT
    have new : ObjOk X.prog X.w (upd H s.heap.objs.size (.tup [x, y])) h'' s.heap.objs.size (.tup [x, y]) :=
      ⟨by show 2 ≤ sizeLine; decide, [x1, x2], .cons ru (.cons ru2 .nil), ⟨_, hT2, rfl, _, rfl⟩⟩
    have I1 : Inv X pins σ (upd H s.heap.objs.size (.tup [x, y])) { s with heap := h'', toks := tk } :=
      I.turnedNew (ch := [z, TI, TO, i1, i2]) (fun c o hb q => (sb.2 c (fun q' => hb (by simp [q']))).trans (hk c o (fun q' => hb (by simp [q'])) (fun q' => hb (by simp [q'])) (fun q' => hb (by simp [q'])) (fun q' => hb (by simp [q'])) q)) hf (Nat.le_refl _) new
    refine ⟨.ref s.heap.objs.size, _, I1, rfl, ⟨_, x, y, rfl, I.hok.fresh (Nat.le_refl _), rfl, fun l hl => by rw [inv_sq_inj I hl hqx]; exact hx, fun l hl => by rw [inv_sq_inj I hl hqy]; exact hy⟩, ⟨z'', ?_, ⟨x1, x2, ?_⟩, ?_, ?_⟩, fun c hcm => ?_⟩
    · exact (sb.2 _ D.TIz).trans (hk _ _ D.TIz D.TITO D.TIi1 D.TIi2 hTI)
    · exact (sb.2 _ D.TOz).trans TO'
    · exact st1'.1.at fun o q => (sb.2 _ (Ne.symm D.zi1)).trans q
    · exact st2'.1.at fun o q => (sb.2 _ (Ne.symm D.zi2)).trans q
    · have hlt : c < s.heap.objs.size := by
        have e' : c = z ∨ c = TI ∨ c = TO ∨ c = i1 ∨ c = i2 := by simpa using hcm
        rcases e' with q | q | q | q | q
        · rw [q]; exact hzl
        · rw [q]; exact Heap.lt_size hTI
        · rw [q]; exact Heap.lt_size hTO
        · rw [q]; exact h1.lt
        · rw [q]; exact h2.lt
      rw [upd_ne (Nat.ne_of_lt hlt)]
      exact (hf c hcm).1
  done := by
    intro X hP hw hK hc i pins s σ H E I hf st hg
    subst hP hw hK
    obtain ⟨hz, hTI, ⟨x0, y0, hTO⟩, h1, h2⟩ := st
    obtain ⟨xs, ys, hqx, hqy, l1, l2, hend⟩ := hg
    obtain ⟨its, rv, p, _⟩ := inv_sq I hqx
    obtain ⟨its2, rv2, p2, _⟩ := inv_sq I hqy
    have q1 := rv.length
    have q2 := rv2.length
    have hh : X.A.in1.handled = none := I.ok.hd hc
    refine wpAny_pyNext_zipD2_end D (draws_sq (t := t1) (prog := X.prog) (w := X.w) hh i1 a h1a its.toArray) (draws_sq (t := t2) (prog := X.prog) (w := X.w) hh i2 b h2b its2.toArray) hz hTI hTO ⟨h1, p⟩ ⟨h2, p2⟩ (by simp; omega) (by simp; omega) (by simp; omega) fun h' tk hk => ⟨rfl, I.turnedL (t' := tk) (ch := [z, TI, TO, i1, i2]) (fun c o hb q =>
      hk c o (fun q' => hb (by simp [q'])) (fun q' => hb (by simp [q'])) (fun q' => hb (by simp [q'])) (fun q' => hb (by simp [q'])) q) hf⟩
  self := fun A i s Q E st h => wpAny_pyIter_zip st.1 h

def iZipS (K : PySem.W.Frag) (ta : TA) : TI := fun σ H R => ta σ H fun vs H1 => ∃ t1 t2 a b xs ys, vs = [.ref a, .ref b] ∧ IsSq K H1 t1 a xs ∧ IsSq K H1 t2 b ys ∧ R (ItzS K t1 t2 a b) H1
theorem sep5 {N a b : Nat} (ha : a < N) (hb : b < N) : ZipSep2 (N + 4) (N + 2) (N + 3) N (N + 1) [N, a] [N + 1, b] :=
  zip_sep2 (fun c hc => by rw [List.mem_singleton.mp hc]; exact ha) (fun c hc => by rw [List.mem_singleton.mp hc]; exact hb)
theorem call_zipS {prog : Program} {w : World} {A : Around} {E : Value → Shared → Prop} {s : Shared} {t1 t2 : Bool} {a b : Addr} {xs ys : Array Value} {Q : Value → Shared → Prop} (h1 : SeqAt t1 s.heap a xs) (h2 : SeqAt t2 s.heap b ys)
    (h : ∀ h', IsZip h' (s.heap.objs.size + 4) (s.heap.objs.size + 2) (s.heap.objs.size + 3) .none → IsTupOf2 h' (s.heap.objs.size + 2) (.ref s.heap.objs.size) (.ref (s.heap.objs.size + 1)) →
      IsTupOf2 h' (s.heap.objs.size + 3) .none .none → IterAt t1 h' s.heap.objs.size a 0 → IterAt t2 h' (s.heap.objs.size + 1) b 0 → h'.objs.size = s.heap.objs.size + 5 →
      (∀ c o, s.heap.get? c = some o → h'.get? c = some o) → Q (.ref (s.heap.objs.size + 4)) { s with heap := h' }) :
    wpAny (model prog w) A (call (.type "zip") [.ref a, .ref b]) Q E s :=
  zip_begins2 (begins_sq t1 a xs) (begins_sq t2 b ys) h1 h2 fun h' hz hTI hTO g1 g2 hsz hk => h h' hz hTI hTO (itObj_at g1) (itObj_at g2) hsz hk
theorem pi_zipS {X : Cx} {e e2 : Expr} {ta : TA} {p pos tpos : Pos} {elts : List Expr} {kk : Nat} (hg : Gl X "zip") (hm : X.mg "zip" = none) (ha : PA X [e, e2] ta)
    (hs : starEach [e, e2] X.env = (false, eval e X.env) :: starEach [e2] X.env := by rfl) (hpl : (backTo pos (starEach [e2] X.env)).any (·.1) = false := by rfl) :
    PI X (.Tuple elts kk tpos) (.Call (.Name "zip" p) [e, e2] [] pos) (iZipS X.K ta) := by
  refine ⟨fun pins s σ H R I h => ?_⟩
  refine Call_ (ld_blt I hg hm PyProof.Rows.boot_zip (PyProof.Rows.callWith_type1 (thn (ha.run pos pins s σ H _ I h) fun us s1 ⟨vs, H1, I1, r1, q1⟩ => ?_) hs hpl))
  obtain ⟨t1, t2, a, b, xs, ys, ex, hqx, hqy, q⟩ := q1
  subst ex
  cases r1 with
  | cons r rr =>
    cases rr with
    | cons r' rr =>
      cases rr
      cases r
      cases r'
      have fresh5 : ∀ c, c ∈ [s1.heap.objs.size + 4, s1.heap.objs.size + 2, s1.heap.objs.size + 3, s1.heap.objs.size, s1.heap.objs.size + 1] → FpOk X pins H1 c := fun c hcm => by
        have e' : c = s1.heap.objs.size + 4 ∨ c = s1.heap.objs.size + 2 ∨ c = s1.heap.objs.size + 3 ∨ c = s1.heap.objs.size ∨ c = s1.heap.objs.size + 1 := by simpa using hcm
        have hle : s1.heap.objs.size ≤ c := by
          rcases e' with z | z | z | z | z
          · rw [z]; exact Nat.le_add_right _ _
          · rw [z]; exact Nat.le_add_right _ _
          · rw [z]; exact Nat.le_add_right _ _
          · rw [z]; exact Nat.le_refl _
          · rw [z]; exact Nat.le_add_right _ _
        exact I1.fpOk hle (I1.hok.fresh hle)
      obtain ⟨its, rv, p1, _⟩ := inv_sq I1 hqx
      obtain ⟨its2, rv2, p2, _⟩ := inv_sq I1 hqy
      refine call_zipS p1 p2 fun h' hz hTI hTO h1 h2 hsz hk => wpAny_pyIter_zip hz ?_
      have I2 : Inv X pins σ H1 { s1 with heap := h' } := I1.kept (t' := s1.toks) hk
      exact ⟨s1.heap.objs.size + 4, [s1.heap.objs.size + 4, s1.heap.objs.size + 2, s1.heap.objs.size + 3, s1.heap.objs.size, s1.heap.objs.size + 1], _, _, H1, rfl, I2, turn_zipS t1 t2 (sep5 p1.lt p2.lt) (Nat.ne_of_lt p1.lt) (Nat.ne_of_lt (Nat.lt_succ_of_lt p2.lt)), ⟨hz, hTI, ⟨_, _, hTO⟩, h1, h2⟩, fresh5, q⟩
def zipL (xs ys : List D) : List D := (xs.zip ys).map fun p => PyData.tuple [p.1, p.2]
theorem zipL_len {xs ys : List D} : (zipL xs ys).length = min xs.length ys.length := by unfold zipL; rw [List.length_map, List.length_zip]
theorem zipL_get {xs ys : List D} {i : Nat} {d e : D} (h : xs[i]? = some d) (h2 : ys[i]? = some e) : (zipL xs ys)[i]? = some (.tuple [d, e]) := by
  unfold zipL
  rw [List.getElem?_map, List.getElem?_zip_eq_some.mpr (show xs[i]? = some (d, e).1 ∧ ys[i]? = some (d, e).2 from ⟨h, h2⟩)]
  rfl
theorem yields_zip {K : PySem.W.Frag} {hd : V → D → Prop} {a b : Addr} {d d2 : D} {z z2 : Bool × List D} (hd1 : hd (.ref a) d) (hd2 : hd (.ref b) d2) (hz : seqD d = .ok z) (hz2 : seqD d2 = .ok z2) : Yields K hd (ItzS K z.1 z2.1 a b) (zipL z.2 z2.2) := by
  intro M H hh
  obtain ⟨vs, q, r⟩ := held_sq (hh _ _ hd1) hz
  obtain ⟨vs2, q2, r2⟩ := held_sq (hh _ _ hd2) hz2
  have l1 := r.len
  have l2 := r2.len
  rw [zipL_len]
  refine ⟨fun i hi => ?_, ⟨vs, vs2, q, q2, by omega, by omega, by omega⟩, fun i x H' hi y => ?_⟩
  · have hi' : i < vs.length := by omega
    have hi2 : i < vs2.length := by omega
    exact ⟨vs, vs2, vs[i], vs2[i], q, q2, by simp [hi'], by simp [hi2]⟩
  · obtain ⟨T, u, u2, rfl, hT, rfl, hu, hu2⟩ := y
    obtain ⟨e, h1, h2⟩ := r.get (hu vs q)
    obtain ⟨e2, h3, h4⟩ := r2.get (hu2 vs2 q2)
    exact ⟨Same.upd hT, _, zipL_get h1 h3, fun hM => rp_pair hT hM h2 h4⟩
section
variable {X : Cx} {J : Jx} {e e2 : Expr} {fe fa fb : EvF} {p pos tpos : Pos} {elts : List Expr} {kk : Nat}
def mZip (f f2 : EvF) : EvA := fun ρ => bnd (f ρ) fun p => bnd (f2 p.2) fun q => bnd (pur (seqD p.1)) fun z => bnd (pur (seqD q.1)) fun z2 => .ok (zipL z.2 z2.2, q.2)
theorem di_zip (hm : X.mg "zip" = none) (ha : PE X e (tE X.K J fa)) (hb : PE X e2 (tE X.K J fb)) (hg : Gl X "zip" := by rfl) (hs : starEach [e, e2] X.env = (false, eval e X.env) :: starEach [e2] X.env := by rfl) (hpl : (backTo pos (starEach [e2] X.env)).any (·.1) = false := by rfl)
    (hs3 : starEach (e2 :: []) X.env = (false, eval e2 X.env) :: starEach [] X.env := by rfl) :
    PI X (.Tuple elts kk tpos) (.Call (.Name "zip" p) [e, e2] [] pos) (tI X.K J (mZip fa fb)) := by
  refine PI.imp (pi_zipS hg hm (pa_cons ha (pa_cons hb pa_nil hs3) hs) hs hpl) ?_
  rintro σ H Rr ⟨G, ρ, R, h⟩
  refine ⟨G, ρ, R, h.bnd fun p h x H1 R1 r1 => ⟨G.hold x p.1, p.2, R1.hold r1, h.hold.bnd fun p2 h y H2 R2 r2 => ?_⟩⟩
  obtain ⟨z, h3, h⟩ := h.pur
  obtain ⟨z2, h4, h⟩ := h.pur
  obtain ⟨a, rfl⟩ := held_ref r1 h3
  obtain ⟨b, rfl⟩ := held_ref r2 h4
  have r1' := R2.held _ _ (.inr ⟨rfl, rfl⟩)
  obtain ⟨vs, q, r⟩ := held_sq r1' h3
  obtain ⟨vs2, q2, r2'⟩ := held_sq r2 h4
  exact ⟨z.1, z2.1, a, b, vs, vs2, rfl, q, q2, h _ _ _ (R2.hold r2) ((Ext.hold _ _ _).trans (Ext.hold _ _ _)) (yields_zip (.inl (.inr ⟨rfl, rfl⟩)) (.inr ⟨rfl, rfl⟩) h3 h4)⟩
end
end L2.DL

namespace L2.DL
open PySem PySem.Spec PyProof.Rows

/-! ## list(zip(a, b)) -/
section
variable {prog : Program} {w : World} {A : Around} {E : Value → Shared → Prop} {s : Shared} {z TI TO i1 i2 T : Addr} {fp1 fp2 : List Addr} {n1 n2 i : Nat} {P1 P2 : Nat → Value → Prop} {St1 St2 : Nat → Heap → Prop} {f : Bool} {oT : Obj}
theorem zipH_item {Q : Value → Shared → Prop} (S : ZipSep2 z TI TO i1 i2 fp1 fp2) (D1 : Draws prog w A i1 fp1 n1 P1 St1) (D2 : Draws prog w A i2 fp2 n2 P2 St2)
    (hz : IsZipHeld s.heap z TI TO T f) (hT : s.heap.get? T = some oT) (hTI : IsTupOf2 s.heap TI (.ref i1) (.ref i2)) (st1 : St1 i s.heap) (st2 : St2 i s.heap) (hlt1 : i < n1) (hlt2 : i < n2)
    (hQ : ∀ x1 x2 h' tk, P1 i x1 → P2 i x2 → IsZipHeld h' z TI TO T true → St1 (i + 1) h' → St2 (i + 1) h' → IsTupOf2 h' s.heap.objs.size x1 x2 → h'.objs.size = s.heap.objs.size + 1 →
      (∀ c o, c ≠ z → c ≠ i1 → c ≠ i2 → s.heap.get? c = some o → h'.get? c = some o) → Q (.ref s.heap.objs.size) { s with heap := h', toks := tk }) :
    wpAny (model prog w) A (Builtin.«zip.__next__» ⟨[.ref z], []⟩) (fun fin s' => ∃ v, fin = .done (.ret v) ∧ Q v s') E s := by
  obtain ⟨hp, g, d, tk0, os⟩ := s
  show wpAny _ _ (field (.ref z) 2 >>= _) _ _ _
  refine wpAny_bind (wpAny_field hz rfl (x := .bool false) rfl ?_)
  show wpAny _ _ (field (.ref z) 3 >>= _) _ _ _
  refine wpAny_bind (wpAny_field hz rfl (x := .ref TI) rfl ?_)
  refine wpAny_bind (wpAny_seqItems hTI rfl ?_)
  show wpAny _ _ (Builtin.SmallTypes.ownedTupleIsFree (.ref z) >>= _) _ _ _
  refine wpAny_bind (wpAny_tupleHeld_zip hz hT fun h₁ hz₁ hs₁ => ?_)
  replace hs₁ : Heap.SameBut z hp h₁ := hs₁
  simp only [Bool.false_eq_true, if_false]
  refine wpAny_bind ?_
  rw [← Array.forIn_toList]
  simp only [List.forIn_cons, List.forIn_nil]
  refine wpAny_bind (wpAny_bind (wpAny_holding ?_))
  show wpAny _ _ (Builtin.SmallTypes.nextOf (.ref i1) >>= _) _ _ ⟨h₁, g, d, tk0, os⟩
  refine wpAny_bind (D1.item i _ _ _ hlt1 (D1.over st1 hs₁ S.zf1) fun x1 p1 tk1 hx1 sn1 hp1 => wpAny_pure ?_)
  replace hp1 : Heap.SameBut i1 h₁ p1 := hp1
  refine wpAny_pure ?_
  refine wpAny_bind (wpAny_bind (wpAny_holding ?_))
  show wpAny _ _ (Builtin.SmallTypes.nextOf (.ref i2) >>= _) _ _ ⟨p1, g, d, tk1, os⟩
  refine wpAny_bind (D2.item i _ _ _ hlt2 (D2.over (D2.over st2 hs₁ S.zf2) hp1 S.sep1_2) fun x2 p2 tk2 hx2 sn2 hp2 => wpAny_pure ?_)
  replace hp2 : Heap.SameBut i2 p1 p2 := hp2
  refine wpAny_pure (wpAny_pure ?_)
  show wpAny _ _ (newTuple [x1, x2] >>= _) _ _ _
  refine wpAny_bind (wpAny_newTuple ?_)
  have hsz : p2.objs.size = hp.objs.size := by rw [hp2.1, hp1.1, hs₁.1]
  have hz₃ : IsZipHeld p2 z TI TO T true := hp2.extBut _ _ S.zi2 (hp1.extBut _ _ S.zi1 hz₁)
  have hk : ∀ c o, c ≠ z → c ≠ i1 → c ≠ i2 → hp.get? c = some o → p2.get? c = some o := fun c o c1 c2 c3 e => hp2.extBut _ _ c3 (hp1.extBut _ _ c2 (hs₁.extBut _ _ c1 e))
  have hj1 : St1 (i + 1) p2 := D1.over sn1 hp2 S.sep2_1
  refine wpAny_pure ⟨_, rfl, ?_⟩
  show Q (.ref p2.objs.size) ⟨p2.push { cls := .type "tuple", data := .seq #[x1, x2] }, g, d, tk2, os⟩
  have hp' : IsTupOf2 (p2.push { cls := .type "tuple", data := .seq #[x1, x2] }) p2.objs.size x1 x2 := Heap.get?_push_size _ rfl
  have hz4 : (p2.push { cls := .type "tuple", data := .seq #[x1, x2] }).objs.size = p2.objs.size + 1 := Heap.size_push ..
  rw [hsz] at hp' hz4 ⊢
  exact hQ x1 x2 _ tk2 hx1 hx2 (Heap.get?_push_of_some _ hz₃) (D1.frame _ _ _ hj1 fun b hb o e => Heap.get?_push_of_some _ e) (D2.frame _ _ _ sn2 fun b hb o e => Heap.get?_push_of_some _ e) hp' hz4 fun c o c1 c2 c3 e => Heap.get?_push_of_some _ (hk c o c1 c2 c3 e)
theorem zipH_end {Q : Fin → Shared → Prop} (S : ZipSep2 z TI TO i1 i2 fp1 fp2) (D1 : Draws prog w A i1 fp1 n1 P1 St1) (D2 : Draws prog w A i2 fp2 n2 P2 St2)
    (hz : IsZipHeld s.heap z TI TO T f) (hT : s.heap.get? T = some oT) (hTI : IsTupOf2 s.heap TI (.ref i1) (.ref i2)) (st1 : St1 i s.heap) (st2 : St2 i s.heap) (hle1 : i ≤ n1) (hle2 : i ≤ n2) (hend : i = n1 ∨ i = n2)
    (hE : ∀ h' tk e, (∀ c o, c ≠ z → c ≠ i1 → c ≠ i2 → s.heap.get? c = some o → h'.get? c = some o) → (∃ o, h'.get? e = some o ∧ o.cls = .type "StopIteration") → E (.ref e) { s with heap := h', toks := tk }) :
    wpAny (model prog w) A (Builtin.«zip.__next__» ⟨[.ref z], []⟩) Q E s := by
  obtain ⟨hp, g, d, tk0, os⟩ := s
  show wpAny _ _ (field (.ref z) 2 >>= _) _ _ _
  refine wpAny_bind (wpAny_field hz rfl (x := .bool false) rfl ?_)
  show wpAny _ _ (field (.ref z) 3 >>= _) _ _ _
  refine wpAny_bind (wpAny_field hz rfl (x := .ref TI) rfl ?_)
  refine wpAny_bind (wpAny_seqItems hTI rfl ?_)
  show wpAny _ _ (Builtin.SmallTypes.ownedTupleIsFree (.ref z) >>= _) _ _ _
  refine wpAny_bind (wpAny_tupleHeld_zip hz hT fun h₁ hz₁ hs₁ => ?_)
  replace hs₁ : Heap.SameBut z hp h₁ := hs₁
  simp only [Bool.false_eq_true, if_false]
  refine wpAny_bind ?_
  rw [← Array.forIn_toList]
  simp only [List.forIn_cons, List.forIn_nil]
  refine wpAny_bind (wpAny_bind (wpAny_holding ?_))
  show wpAny _ _ (Builtin.SmallTypes.nextOf (.ref i1) >>= _) _ _ ⟨h₁, g, d, tk0, os⟩
  by_cases hlt1 : i < n1
  · refine wpAny_bind (D1.item i _ _ _ hlt1 (D1.over st1 hs₁ S.zf1) fun x1 p1 tk1 hx1 sn1 hp1 => wpAny_pure ?_)
    replace hp1 : Heap.SameBut i1 h₁ p1 := hp1
    refine wpAny_pure ?_
    refine wpAny_bind (wpAny_bind (wpAny_holding ?_))
    show wpAny _ _ (Builtin.SmallTypes.nextOf (.ref i2) >>= _) _ _ ⟨p1, g, d, tk1, os⟩
    have hi2 : i = n2 := by omega
    refine wpAny_bind (D2.done ⟨p1, g, d, tk1, os⟩ _ _ (by rw [← hi2]; exact (D2.over (D2.over st2 hs₁ S.zf2) hp1 S.sep1_2)) fun q e hq he => ?_)
    exact hE q tk1 e (fun c o c1 c2 c3 x => hq _ _ c3 (hp1.extBut _ _ c2 (hs₁.extBut _ _ c1 x))) he
  · have hi1 : i = n1 := by omega
    refine wpAny_bind (D1.done ⟨h₁, g, d, tk0, os⟩ _ _ (by rw [← hi1]; exact (D1.over st1 hs₁ S.zf1)) fun q e hq he => ?_)
    exact hE q tk0 e (fun c o c1 c2 c3 x => hq _ _ c2 (hs₁.extBut _ _ c1 x)) he
end
/-- where a zip stands that was drawn from i times, its tuples kept by the list at S -/
structure ZAt (h : Heap) (z TI TO i1 i2 S : Addr) : Prop where
  ti : IsTupOf2 h TI (.ref i1) (.ref i2)
  st : ((∃ x y, IsTupOf2 h TO x y) ∧ IsZip h z TI TO .none) ∨ ∃ T f oT, IsZipHeld h z TI TO T f ∧ h.get? T = some oT ∧ S < T
theorem ZAt.keep {h h' : Heap} {z TI TO i1 i2 S : Addr} (e : ZAt h z TI TO i1 i2 S) (k : ∀ b o, b ≠ S → h.get? b = some o → h'.get? b = some o) (n1 : z ≠ S) (n2 : TI ≠ S) (n3 : TO ≠ S) : ZAt h' z TI TO i1 i2 S := by
  refine ⟨k _ _ n2 e.ti, ?_⟩
  rcases e.st with ⟨⟨x, y, q⟩, q2⟩ | ⟨T, f, oT, q1, q2, q3⟩
  · exact .inl ⟨⟨x, y, k _ _ n3 q⟩, k _ _ n1 q2⟩
  · exact .inr ⟨T, f, oT, k _ _ n1 q1, k _ _ (Nat.ne_of_gt q3) q2, q3⟩
section
variable {prog : Program} {w : World} {A : Around} {E : Value → Shared → Prop} {s : Shared} {z TI TO i1 i2 S : Addr} {fp1 fp2 : List Addr} {n1 n2 i : Nat} {P1 P2 : Nat → Value → Prop} {St1 St2 : Nat → Heap → Prop}
theorem zAt_item {Q : Option Value → Shared → Prop} (D : ZipSep2 z TI TO i1 i2 fp1 fp2) (D1 : Draws prog w A.in1 i1 fp1 n1 P1 St1) (D2 : Draws prog w A.in1 i2 fp2 n2 P2 St2)
    (hz : ZAt s.heap z TI TO i1 i2 S) (hS : z < S ∧ TO < S ∧ i1 < S ∧ i2 < S) (hSs : S < s.heap.objs.size) (st1 : St1 i s.heap) (st2 : St2 i s.heap) (hlt1 : i < n1) (hlt2 : i < n2)
    (hQ : ∀ x1 x2 h' tk, P1 i x1 → P2 i x2 → ZAt h' z TI TO i1 i2 S → St1 (i + 1) h' → St2 (i + 1) h' → IsTupOf2 h' s.heap.objs.size x1 x2 → h'.objs.size = s.heap.objs.size + 1 →
      (∀ c o, c ≠ z → c ≠ TO → c ≠ i1 → c ≠ i2 → s.heap.get? c = some o → h'.get? c = some o) → Q (some (.ref s.heap.objs.size)) { s with heap := h', toks := tk }) :
    wpAny (model prog w) A (pyNext (.ref z)) Q E s := by
  obtain ⟨hTI, st⟩ := hz
  rcases st with ⟨⟨x, y, hTO⟩, hz⟩ | ⟨T, f, oT, hz, hT, hST⟩
  · exact wpAny_pyNext_zipD2_item D D1 D2 hz hTI hTO st1 st2 hlt1 hlt2 fun x1 x2 h' tk p1 p2 hz' hTO' s1 s2 hT hsz hk => hQ x1 x2 h' tk p1 p2 ⟨hk _ _ D.TIz D.TITO D.TIi1 D.TIi2 hTI, .inr ⟨s.heap.objs.size, false, _, hz', hT, hSs⟩⟩ s1 s2 hT hsz hk
  · have hTy : s.TypeIs (.ref z) "zip" := ⟨_, hz, rfl⟩
    unfold pyNext
    exact wpAny_bind (wpAny_attempt (wpAny_callSpecial?_slot (name := Str.ofString "__next__") hTy F.slot_zip_next
      (wpAny_call_entry F.slot_zip_next hTy F.entry_zip_next
        (zipH_item D D1 D2 hz hT hTI st1 st2 hlt1 hlt2 fun x1 x2 h' tk p1 p2 hz' s1 s2 hT' hsz hk => wpAny_pure (hQ x1 x2 h' tk p1 p2
          ⟨hk _ _ D.TIz D.TIi1 D.TIi2 hTI, .inr ⟨T, true, oT, hz', hk _ _ (fun e => absurd hS.1 (by rw [← e]; exact Nat.not_lt.mpr (Nat.le_of_lt hST))) (fun e => absurd hS.2.2.1 (by rw [← e]; exact Nat.not_lt.mpr (Nat.le_of_lt hST))) (fun e => absurd hS.2.2.2 (by rw [← e]; exact Nat.not_lt.mpr (Nat.le_of_lt hST))) hT, hST⟩⟩
          s1 s2 hT' hsz fun c o c1 _ c3 c4 e => hk c o c1 c3 c4 e)) (F.args_zip_next_1 _))))
theorem zAt_done {Q : Option Value → Shared → Prop} (D : ZipSep2 z TI TO i1 i2 fp1 fp2) (D1 : Draws prog w A.in1 i1 fp1 n1 P1 St1) (D2 : Draws prog w A.in1 i2 fp2 n2 P2 St2)
    (hz : ZAt s.heap z TI TO i1 i2 S) (st1 : St1 i s.heap) (st2 : St2 i s.heap) (hle1 : i ≤ n1) (hle2 : i ≤ n2) (hend : i = n1 ∨ i = n2)
    (hQ : ∀ h' tk, (∀ c o, c ≠ z → c ≠ TO → c ≠ i1 → c ≠ i2 → s.heap.get? c = some o → h'.get? c = some o) → Q none { s with heap := h', toks := tk }) :
    wpAny (model prog w) A (pyNext (.ref z)) Q E s := by
  obtain ⟨hTI, st⟩ := hz
  rcases st with ⟨⟨x, y, hTO⟩, hz⟩ | ⟨T, f, oT, hz, hT, hST⟩
  · exact wpAny_pyNext_zipD2_end D D1 D2 hz hTI hTO st1 st2 hle1 hle2 hend hQ
  · have hTy : s.TypeIs (.ref z) "zip" := ⟨_, hz, rfl⟩
    unfold pyNext
    refine wpAny_bind (wpAny_attempt (wpAny_callSpecial?_slot (name := Str.ofString "__next__") hTy F.slot_zip_next
      (wpAny_call_entry F.slot_zip_next hTy F.entry_zip_next (zipH_end D D1 D2 hz hT hTI st1 st2 hle1 hle2 hend fun h' tk e hk he => ?_) (F.args_zip_next_1 _))))
    obtain ⟨o, ho, hc⟩ := he
    refine wpAny_bind (wpAny_isInstance (T := "StopIteration") (b := true) ⟨o, ho, hc⟩ isSubtype_stop ?_)
    exact wpAny_pure (hQ _ _ fun c o c1 _ c3 c4 e => hk c o c1 c3 c4 e)
end
/-- pairs that were drawn, in order -/
structure PairsG (P : Nat → Value → Value → Prop) (lo : Addr) (h : Heap) (as : List Addr) : Prop where
  rise : as.Pairwise (· < ·)
  above : ∀ a ∈ as, lo < a
  pairs : ∀ (j : Nat) (a : Addr), as[j]? = some a → ∃ x y, P j x y ∧ h.get? a = some { cls := .type "tuple", data := .seq #[x, y] }
theorem zip_no_len : typeLookup (.type "zip") "__len__" = pure none := by rw [typeLookup_type, builtinLookup_eq_fast]; kernel_rfl
theorem zip_no_hint : typeLookup (.type "zip") "__length_hint__" = pure none := by rw [typeLookup_type, builtinLookup_eq_fast]; kernel_rfl
section
variable {prog : Program} {w : World} {A : Around} {E : Value → Shared → Prop} {s : Shared} {R : Result → Shared → Prop} {z TI TO i1 i2 S : Addr} {fp1 fp2 : List Addr} {n1 n2 : Nat} {P1 P2 : Nat → Value → Prop} {St1 St2 : Nat → Heap → Prop}
theorem hint_zip {r : Addr} (hT : s.TypeIs (.ref r) "zip") {Q : Bool → Shared → Prop} (h : Q true s) : wpAny (model prog w) A (Builtin.List.listLengthHint (.ref r)) Q E s := by
  unfold Builtin.List.listLengthHint
  refine wpAny_bind (wpAny_specialOf hT zip_no_len ?_)
  dsimp only
  refine wpAny_ite_split (fun hab => absurd hab (by decide)) (fun _ => ?_)
  refine wpAny_ite_split (fun hab => absurd hab (by decide)) (fun _ => ?_)
  refine wpAny_bind (wpAny_specialOf hT zip_no_hint ?_)
  exact wpAny_pure h

theorem zl_loop (hh : A.handled = none) (D : ZipSep2 z TI TO i1 i2 fp1 fp2) (D1 : Draws prog w A.in1.in1 i1 fp1 n1 P1 St1) (D2 : Draws prog w A.in1.in1 i2 fp2 n2 P2 St2) (hlo : z < S ∧ TI < S ∧ TO < S ∧ i1 < S ∧ i2 < S) (hf1 : S ∉ fp1) (hf2 : S ∉ fp2)
    (hn : min n1 n2 ≤ sizeLine) (res : Value) {h₁ : Heap}
    (hR : ∀ h' tk acc c as, (∀ b o, b ≠ S → b ≠ z → b ≠ TO → b ≠ i1 → b ≠ i2 → h₁.get? b = some o → h'.get? b = some o) → h'.get? S = some { cls := .type "list", dict := none, data := .seq acc c, slots := #[] } → as.length = min n1 n2 → PairsG (fun j x y => P1 j x ∧ P2 j y) S h' as →
      acc.toList = as.map Value.ref → R (.ok (.ret res)) { s with heap := h', toks := tk }) :
    ∀ (k i : Nat) (h : Heap) (tk c : Nat) (acc : Array Value) (as : List Addr), min n1 n2 - i = k → i ≤ min n1 n2 → ZAt h z TI TO i1 i2 S → St1 i h → St2 i h → (∀ b o, b ≠ S → b ≠ z → b ≠ TO → b ≠ i1 → b ≠ i2 → h₁.get? b = some o → h.get? b = some o) →
      h.get? S = some { cls := .type "list", dict := none, data := .seq acc c, slots := #[] } → acc.toList = as.map Value.ref → as.length = i → PairsG (fun j x y => P1 j x ∧ P2 j y) S h as →
      codeAny (model prog w) A (.builtin "list.extend.loop" ⟨[.ref S, .ref z, res], []⟩) R { s with heap := h, toks := tk } := by
  intro k
  induction k with
  | zero =>
    intro i h tk c acc as hk hi hst st1 st2 hkeep hS hacc hal hG
    have hin : i = min n1 n2 := by omega
    refine codeAny_builtin PySem.F.entry_extend_loop ?_
    rw [Around.under_plainId PySem.F.plain_extend_loop _]
    show wpAny _ A.in1 (pyNext (.ref z) >>= _) _ _ _
    refine wpAny_bind (zAt_done (s := { s with heap := h, toks := tk }) (A := A.in1) D D1 D2 hst st1 st2 (by omega) (by omega) (by omega) fun h' tk' he => ?_)
    refine wpAny_pure (hR h' tk' acc c as (fun b o h0 h1 h2 h3 h4 e => he b o h1 h2 h3 h4 (hkeep b o h0 h1 h2 h3 h4 e)) (he S _ (Nat.ne_of_gt hlo.1) (Nat.ne_of_gt hlo.2.2.1) (Nat.ne_of_gt hlo.2.2.2.1) (Nat.ne_of_gt hlo.2.2.2.2) hS) (by omega) ⟨hG.rise, hG.above, fun j a hj => ?_⟩ hacc)
    obtain ⟨x, y, hp, e3⟩ := hG.pairs j a hj
    have hb := hG.above a (List.mem_of_getElem? hj)
    exact ⟨x, y, hp, he a _ (Nat.ne_of_gt (Nat.lt_trans hlo.1 hb)) (Nat.ne_of_gt (Nat.lt_trans hlo.2.2.1 hb)) (Nat.ne_of_gt (Nat.lt_trans hlo.2.2.2.1 hb)) (Nat.ne_of_gt (Nat.lt_trans hlo.2.2.2.2 hb)) e3⟩
  | succ k ih =>
    intro i h tk c acc as hk hi hst st1 st2 hkeep hS hacc hal hG
    have hlt : i < min n1 n2 := by omega
    have hsz : acc.size = i := by rw [← Array.length_toList, hacc, List.length_map, hal]
    have hSl : S < h.objs.size := Heap.lt_size hS
    refine codeAny_builtin PySem.F.entry_extend_loop ?_
    rw [Around.under_plainId PySem.F.plain_extend_loop _]
    show wpAny _ A.in1 (pyNext (.ref z) >>= _) _ _ _
    refine wpAny_bind (zAt_item (s := { s with heap := h, toks := tk }) (A := A.in1) D D1 D2 hst ⟨hlo.1, hlo.2.2⟩ hSl st1 st2 (by omega) (by omega) fun x1 x2 h' tk' p1 p2 hst' st1' st2' ht hz hkp => ?_)
    dsimp only at ht hz hkp ⊢
    have hS' := hkp S _ (Nat.ne_of_gt hlo.1) (Nat.ne_of_gt hlo.2.2.1) (Nat.ne_of_gt hlo.2.2.2.1) (Nat.ne_of_gt hlo.2.2.2.2) hS
    have up : ∀ b o, b ≠ S → h'.get? b = some o → (h'.update S (Obj.mapSeq (·.push (Value.ref h.objs.size)))).get? b = some o := fun b o hb e => (Heap.get?_update_other _ _ (Ne.symm hb)).trans e
    show wpAny _ A.in1 (updateSeq S (·.push (Value.ref h.objs.size)) >>= _) _ _ _
    refine wpAny_bind ?_
    refine wpAny_updateSeq hS' rfl (wpAny_pure ⟨plainId_quiet PySem.F.plain_extend_loop _, ih (i + 1) _ tk' _ (acc.push (Value.ref h.objs.size)) (as ++ [h.objs.size]) (by omega) hlt (hst'.keep up (Nat.ne_of_lt hlo.1) (Nat.ne_of_lt hlo.2.1) (Nat.ne_of_lt hlo.2.2.1))
      (D1.frame _ _ _ st1' fun b hb o e => up b o (fun q => hf1 (q ▸ hb)) e) (D2.frame _ _ _ st2' fun b hb o e => up b o (fun q => hf2 (q ▸ hb)) e)
      (fun b o h0 h1 h2 h3 h4 e => up b o h0 (hkp b o h1 h2 h3 h4 (hkeep b o h0 h1 h2 h3 h4 e))) (Heap.get?_update_self _ hS' rfl) (by rw [Array.toList_push, hacc, List.map_append]; rfl) (by rw [List.length_append, hal]; rfl) ⟨?_, ?_, ?_⟩⟩) (by rw [hsz]; omega) (by show (acc.push (Value.ref h.objs.size)).size ≤ sizeLine + 1; rw [Array.size_push, hsz]; omega)
    · refine List.pairwise_append.mpr ⟨hG.rise, List.pairwise_singleton _ _, fun a ha b hb => ?_⟩
      rw [List.mem_singleton.mp hb]
      obtain ⟨j, hj⟩ := List.mem_iff_getElem?.mp ha
      obtain ⟨_, _, _, e⟩ := hG.pairs j a hj
      exact Heap.lt_size e
    · intro a ha
      rcases List.mem_append.mp ha with ha | ha
      · exact hG.above a ha
      · rw [List.mem_singleton.mp ha]; exact hSl
    · intro j b hj
      rcases Nat.lt_trichotomy j as.length with h1 | h1 | h1
      · rw [List.getElem?_append_left h1] at hj
        obtain ⟨x, y, hp, e3⟩ := hG.pairs j b hj
        have hb := hG.above b (List.mem_of_getElem? hj)
        exact ⟨x, y, hp, up b _ (Nat.ne_of_gt hb) (hkp b _ (Nat.ne_of_gt (Nat.lt_trans hlo.1 hb)) (Nat.ne_of_gt (Nat.lt_trans hlo.2.2.1 hb)) (Nat.ne_of_gt (Nat.lt_trans hlo.2.2.2.1 hb)) (Nat.ne_of_gt (Nat.lt_trans hlo.2.2.2.2 hb)) e3)⟩
      · subst h1
        have hb : h.objs.size = b := by simpa using hj
        subst hb
        subst hal
        exact ⟨x1, x2, ⟨p1, p2⟩, up _ _ (Nat.ne_of_gt hSl) ht⟩
      · have hnone : (as ++ [h.objs.size])[j]? = none := List.getElem?_eq_none (by rw [List.length_append, List.length_singleton]; omega)
        rw [hnone] at hj; cases hj
theorem zl_extend (hh : A.handled = none) (D : ZipSep2 z TI TO i1 i2 fp1 fp2) (D1 : Draws prog w A.in1.in1 i1 fp1 n1 P1 St1) (D2 : Draws prog w A.in1.in1 i2 fp2 n2 P2 St2) (hlo : z < S ∧ TI < S ∧ TO < S ∧ i1 < S ∧ i2 < S) (hf1 : S ∉ fp1) (hf2 : S ∉ fp2)
    (hn : min n1 n2 ≤ sizeLine) (res : Value) (c₀ : Nat) (hz : IsZip s.heap z TI TO .none) (hTI : IsTupOf2 s.heap TI (.ref i1) (.ref i2)) {x0 y0 : Value} (hTO : IsTupOf2 s.heap TO x0 y0) (st1 : St1 0 s.heap) (st2 : St2 0 s.heap) (hS : s.heap.get? S = some { cls := .type "list", data := .seq #[] c₀ })
    (hR : ∀ h' tk acc c as, (∀ b o, b ≠ S → b ≠ z → b ≠ TO → b ≠ i1 → b ≠ i2 → s.heap.get? b = some o → h'.get? b = some o) → h'.get? S = some { cls := .type "list", dict := none, data := .seq acc c, slots := #[] } → as.length = min n1 n2 → PairsG (fun j x y => P1 j x ∧ P2 j y) S h' as →
      acc.toList = as.map Value.ref → R (.ok (.ret res)) { s with heap := h', toks := tk }) :
    wpAny (model prog w) A.in1 (Builtin.List.listExtendWith (.ref S) (.ref z) res)
      (fun fin s' => match fin with | .done f => R (.ok f) s' | .again c' => c'.quiet = true ∧ codeAny (model prog w) A c' R s') (fun e s' => R (.error e) s') s := by
  have hT : s.TypeIs (.ref z) "zip" := ⟨_, hz, rfl⟩
  have nz : z ≠ S := Nat.ne_of_lt hlo.1
  unfold Builtin.List.listExtendWith
  refine wpAny_bind (wpAny_typeOf (T := "zip") hT ?_)
  have h1 : Builtin.List.listSameRef (.ref S) (.ref z) = false := by simp [Builtin.List.listSameRef, Ne.symm nz]
  have h2 : (Value.type "zip" == Value.type "list") = false := by decide
  have h3 : (Value.type "zip" == Value.type "tuple") = false := by decide
  simp only [h1, h2, h3, Bool.or_false, Bool.false_eq_true, if_false]
  refine wpAny_bind (wpAny_pyIter_zip hz ?_)
  refine wpAny_bind (wpAny_holding (hint_zip hT ?_))
  refine wpAny_ite_split (fun _ => ?_) (fun hab => absurd (by simp) hab)
  refine wpAny_bind (wpAny_rule ?_)
  refine wpAny_bind ?_
  show wpAny _ _ (updateSeq S (·.push .none) >>= fun _ => updateSeq S (·.pop)) _ _ _
  refine wpAny_bind (wpAny_updateSeq hS rfl ?_)
  have hS₂ := Heap.get?_update_self (Obj.mapSeq (·.push Value.none)) hS rfl
  refine wpAny_updateSeq (hz := by seq_fits) hS₂ rfl ?_
  have hS₃ := Heap.get?_update_self (Obj.mapSeq (·.pop)) hS₂ rfl
  have up : ∀ b o, b ≠ S → s.heap.get? b = some o → ((s.heap.update S (Obj.mapSeq (·.push Value.none))).update S (Obj.mapSeq (·.pop))).get? b = some o := fun b o hb e => (Heap.get?_update_other _ _ (Ne.symm hb)).trans ((Heap.get?_update_other _ _ (Ne.symm hb)).trans e)
  refine wpAny_pure ⟨plainId_quiet PySem.F.plain_extend_loop _, ?_⟩
  exact zl_loop (s := s) (h₁ := s.heap) hh D D1 D2 hlo hf1 hf2 hn res hR (min n1 n2) 0 _ s.toks _ #[] [] (Nat.sub_zero _) (Nat.zero_le _) ((ZAt.mk hTI (.inl ⟨⟨_, _, hTO⟩, hz⟩)).keep up nz (Nat.ne_of_lt hlo.2.1) (Nat.ne_of_lt hlo.2.2.1))
    (D1.frame _ _ _ st1 fun b hb o e => up b o (fun q => hf1 (q ▸ hb)) e) (D2.frame _ _ _ st2 fun b hb o e => up b o (fun q => hf2 (q ▸ hb)) e) (fun b o h0 _ _ _ _ e => up b o h0 e) hS₃ rfl rfl ⟨List.Pairwise.nil, (fun _ ha => nomatch ha), (fun j a hj => by simp at hj)⟩
theorem zl_init (hh : A.handled = none) (D : ZipSep2 z TI TO i1 i2 fp1 fp2) (D1 : Draws prog w A.in1.in1 i1 fp1 n1 P1 St1) (D2 : Draws prog w A.in1.in1 i2 fp2 n2 P2 St2) (hlo : z < S ∧ TI < S ∧ TO < S ∧ i1 < S ∧ i2 < S) (hf1 : S ∉ fp1) (hf2 : S ∉ fp2)
    (hn : min n1 n2 ≤ sizeLine) (hz : IsZip s.heap z TI TO .none) (hTI : IsTupOf2 s.heap TI (.ref i1) (.ref i2)) {x0 y0 : Value} (hTO : IsTupOf2 s.heap TO x0 y0) (st1 : St1 0 s.heap) (st2 : St2 0 s.heap) (hS : s.heap.get? S = some { cls := .type "list", data := .seq #[] })
    (hR : ∀ h' tk acc c as, (∀ b o, b ≠ S → b ≠ z → b ≠ TO → b ≠ i1 → b ≠ i2 → s.heap.get? b = some o → h'.get? b = some o) → h'.get? S = some { cls := .type "list", dict := none, data := .seq acc c, slots := #[] } → as.length = min n1 n2 → PairsG (fun j x y => P1 j x ∧ P2 j y) S h' as →
      acc.toList = as.map Value.ref → R (.ok (.ret .none)) { s with heap := h', toks := tk }) :
    wpAny (model prog w) A.in1 (Builtin.«list.__init__» ⟨[.ref S, .ref z], []⟩)
      (fun fin s' => match fin with | .done f => R (.ok f) s' | .again c' => c'.quiet = true ∧ codeAny (model prog w) A c' R s') (fun e s' => R (.error e) s') s := by
  show wpAny _ _ (do let old ← Builtin.List.listItems (.ref S); Builtin.List.listUpdate (.ref S) (fun _ => #[]); letGo old.toList.reverse; Builtin.List.listExtendWith (.ref S) (.ref z) .none) _ _ s
  refine wpAny_bind ?_
  unfold Builtin.List.listItems
  refine wpAny_bind (wpAny_seqItems hS rfl (wpAny_pure ?_))
  show wpAny _ _ (updateSeq S (fun _ => #[]) >>= fun _ => letGo (#[] : Array Value).toList.reverse >>= fun _ => Builtin.List.listExtendWith (.ref S) (.ref z) .none) _ _ s
  refine wpAny_bind (wpAny_updateSeq hS rfl ?_)
  have hS₂ := Heap.get?_update_self (Obj.mapSeq (fun _ => (#[] : Array Value))) hS rfl
  have oth : ∀ b o, b ≠ S → s.heap.get? b = some o → (s.heap.update S (Obj.mapSeq (fun _ => (#[] : Array Value)))).get? b = some o :=
    fun b o hb e => (Heap.get?_update_other _ _ (Ne.symm hb)).trans e
  refine wpAny_bind (wpAny_letGo ?_)
  exact zl_extend hh D D1 D2 hlo hf1 hf2 hn .none _ (oth _ _ (Nat.ne_of_lt hlo.1) hz) (oth _ _ (Nat.ne_of_lt hlo.2.1) hTI) (oth _ _ (Nat.ne_of_lt hlo.2.2.1) hTO) (D1.frame _ _ _ st1 fun b hb o e => oth b o (fun q => hf1 (q ▸ hb)) e) (D2.frame _ _ _ st2 fun b hb o e => oth b o (fun q => hf2 (q ▸ hb)) e) hS₂
    (fun h' tk acc c as hk hS' hl hG hacc => hR h' tk acc c as (fun b o h0 h1 h2 h3 h4 e => hk b o h0 h1 h2 h3 h4 (oth b o h0 e)) hS' hl hG hacc)
theorem zl_call {Q : Value → Shared → Prop} (hh : A.handled = none) (D : ZipSep2 z TI TO i1 i2 fp1 fp2) (D1 : ∀ B : Around, B.handled = none → Draws prog w B i1 fp1 n1 P1 St1) (D2 : ∀ B : Around, B.handled = none → Draws prog w B i2 fp2 n2 P2 St2)
    (hn : min n1 n2 ≤ sizeLine) (hz : IsZip s.heap z TI TO .none) (hTI : IsTupOf2 s.heap TI (.ref i1) (.ref i2)) {x0 y0 : Value} (hTO : IsTupOf2 s.heap TO x0 y0) (st1 : St1 0 s.heap) (st2 : St2 0 s.heap) (hl1 : ∀ b ∈ fp1, b < s.heap.objs.size) (hl2 : ∀ b ∈ fp2, b < s.heap.objs.size)
    (hQ : ∀ h' tk acc c as, (∀ b o, b ≠ z → b ≠ TO → b ≠ i1 → b ≠ i2 → s.heap.get? b = some o → h'.get? b = some o) → h'.get? s.heap.objs.size = some { cls := .type "list", dict := none, data := .seq acc c, slots := #[] } → as.length = min n1 n2 → PairsG (fun j x y => P1 j x ∧ P2 j y) s.heap.objs.size h' as →
      acc.toList = as.map Value.ref → Q (.ref s.heap.objs.size) { s with heap := h', toks := tk }) :
    wpAny (model prog w) A (call (.type "list") [.ref z]) Q E s := by
  refine callType_codes (Q₁ := fun obj s₁ => obj = .ref s.heap.objs.size ∧ s₁ = { s with heap := s.heap.push { cls := .type "list", data := .seq #[] } }) PySem.F.called_list (PySem.F.typeCall_list_1 _) PySem.F.entry_list_init
    (code_list_new _ ⟨rfl, rfl⟩) fun obj s₁ h₁ => ?_
  obtain ⟨rfl, rfl⟩ := h₁
  have hS : (s.heap.push { cls := .type "list", data := .seq #[] }).get? s.heap.objs.size = some { cls := .type "list", data := .seq #[] } := Heap.get?_push_size _ rfl
  have pu : ∀ b o, s.heap.get? b = some o → (s.heap.push { cls := .type "list", data := .seq #[] }).get? b = some o := fun b o e => Heap.get?_push_of_some _ e
  refine ⟨⟨_, hS, rfl⟩, PySem.F.args_list_init_2 _ _, zl_init (A := A.in1) (S := s.heap.objs.size) hh D (D1 _ hh) (D2 _ hh) ⟨Heap.lt_size hz, Heap.lt_size hTI, Heap.lt_size hTO, hl1 _ D.mem1, hl2 _ D.mem2⟩ (fun q => Nat.lt_irrefl _ (hl1 _ q)) (fun q => Nat.lt_irrefl _ (hl2 _ q)) hn
    (pu _ _ hz) (pu _ _ hTI) (pu _ _ hTO) (D1 A hh |>.frame _ _ _ st1 fun b _ o e => pu b o e) (D2 A hh |>.frame _ _ _ st2 fun b _ o e => pu b o e) hS (fun h' tk acc c as hk hS' hl hG hacc => ?_)⟩
  exact ⟨rfl, hQ h' tk acc c as (fun b o h1 h2 h3 h4 e => hk b o (Nat.ne_of_lt (Heap.lt_size e)) h1 h2 h3 h4 (pu b o e)) hS' hl hG hacc⟩
end

def putP : Hp → List Addr → List (V × V) → Hp
  | H, a :: as, p :: ps => upd (putP H as ps) a (.tup [p.1, p.2])
  | H, _, _ => H
theorem putP_off {b : Addr} {H : Hp} : ∀ (as : List Addr) (ps : List (V × V)), b ∉ as → putP H as ps b = H b
  | [], _, _ => rfl
  | _ :: _, [], _ => rfl
  | a :: as, p :: ps, h => by
    show upd (putP H as ps) a (.tup [p.1, p.2]) b = H b
    rw [upd_ne (fun z => h (by rw [z]; exact List.mem_cons_self)), putP_off as ps (fun z => h (List.mem_cons_of_mem _ z))]
theorem putP_at {H : Hp} : ∀ (as : List Addr) (ps : List (V × V)) (j : Nat) (a : Addr) (p : V × V), as.Nodup → as[j]? = some a → ps[j]? = some p → putP H as ps a = some (.tup [p.1, p.2])
  | [], _, j, a, p, _, h, _ => by simp at h
  | _ :: _, [], j, a, p, _, _, h => by simp at h
  | a :: as, q :: ps, 0, b, p, hn, h, h2 => by
    simp at h h2
    subst h h2
    exact upd_same
  | a :: as, q :: ps, j + 1, b, p, hn, h, h2 => by
    have hn' := List.nodup_cons.mp hn
    have h' : as[j]? = some b := by simpa using h
    show upd (putP H as ps) a (.tup [q.1, q.2]) b = _
    rw [upd_ne (fun z => hn'.1 (by rw [← z]; exact List.mem_of_getElem? h'))]
    exact putP_at as ps j b p hn'.2 h' (by simpa using h2)
section
variable {X : Cx} {J : Jx}
theorem pairs_laid {pins : List (Addr × Obj)} {σ : St} {H : Hp} {s : Shared} {h' : Heap} {tk : Nat} {xs ys : List V} {acc : Array Value} {c : Nat} {as : List Addr} {S : Addr} (I : Inv X pins σ H s) (hz : (xs.zip ys).length ≤ sizeLine) (hSl : s.heap.objs.size ≤ S)
    (hk : ∀ b o, s.heap.get? b = some o → h'.get? b = some o) (hS : h'.get? S = some { cls := .type "list", dict := none, data := .seq acc c, slots := #[] }) (hl : as.length = (xs.zip ys).length)
    (hG : PairsG (fun j u v => ∃ x y, xs[j]? = some x ∧ ys[j]? = some y ∧ RelV x u ∧ RelV y v) S h' as) (hacc : acc.toList = as.map Value.ref) :
    ∃ H' : Hp, Same H H' ∧ H S = none ∧ (∀ t ∈ as, H t = none) ∧ S ∉ as ∧ H' S = some (.lst (as.map V.ref)) ∧ (∀ (j : Nat) (a : Addr), as[j]? = some a → ∃ x y, xs[j]? = some x ∧ ys[j]? = some y ∧ H' a = some (.tup [x, y])) ∧ Inv X pins σ H' { s with heap := h', toks := tk } := by
  have hSn : S ∉ as := fun z => Nat.lt_irrefl _ (hG.above _ z)
  have nd : as.Nodup := List.Pairwise.imp (fun {a b} (h : a < b) => Nat.ne_of_lt h) hG.rise
  have hi : ∀ t ∈ as, s.heap.objs.size ≤ t := fun t ht => Nat.le_trans hSl (Nat.le_of_lt (hG.above t ht))
  have new : ∀ t ∈ as, H t = none := fun t ht => I.hok.fresh (hi t ht)
  have newS : H S = none := I.hok.fresh hSl
  have pz : ∀ (j : Nat) (a : Addr), as[j]? = some a → ∃ x y, xs[j]? = some x ∧ ys[j]? = some y ∧ (putP (upd H S (.lst (as.map V.ref))) as (xs.zip ys)) a = some (.tup [x, y]) := fun j a hj => by
    obtain ⟨u, v, ⟨x, y, e1, e2, _, _⟩, _⟩ := hG.pairs j a hj
    refine ⟨x, y, e1, e2, putP_at as (xs.zip ys) j a (x, y) nd hj ?_⟩
    exact List.getElem?_zip_eq_some.mpr ⟨e1, e2⟩
  have off : ∀ b, b ∉ as → b ≠ S → putP (upd H S (.lst (as.map V.ref))) as (xs.zip ys) b = H b := fun b h1 h2 => by rw [putP_off as _ h1, upd_ne h2]
  have low : ∀ b o, s.heap.get? b = some o → b ∉ as ∧ b ≠ S := fun b o e => ⟨fun z => absurd (Heap.lt_size e) (Nat.not_lt.mpr (hi b z)), fun z => absurd (Heap.lt_size e) (Nat.not_lt.mpr (by rw [z]; exact hSl))⟩
  have kp : Same H (putP (upd H S (.lst (as.map V.ref))) as (xs.zip ys)) := fun b u e => by
    rw [off b (fun z => by rw [new b z] at e; cases e) (fun z => by rw [z, newS] at e; cases e)]
    exact e
  have eS : putP (upd H S (.lst (as.map V.ref))) as (xs.zip ys) S = some (.lst (as.map V.ref)) := by rw [putP_off as _ hSn, upd_same]
  refine ⟨putP (upd H S (.lst (as.map V.ref))) as (xs.zip ys), kp, newS, new, hSn, eS, pz, ?_⟩
  refine I.call' (ch := []) rfl ⟨fun b o q _ _ _ => hk b o q, fun b o q _ _ _ => ⟨o.slots, hk b o q⟩, fun b o q n _ => ?_, fun b o q _ => ⟨o, hk b o q⟩, fun b xs q => kp b _ q, fun b o u q => kp b _ q, fun b ps q => ⟨#[], by rw [kp b _ q]; simp⟩⟩ (fun b u q => ?_) I.bare fun b z => by simp at z
  · obtain ⟨z1, z2⟩ := low b o q
    rw [off b z1 z2]
    exact n
  · by_cases hb : b ∈ as
    · obtain ⟨j, e1⟩ := List.mem_iff_getElem?.mp hb
      obtain ⟨x, y, e2, e3, e4⟩ := pz j b e1
      rw [e4] at q
      cases q
      obtain ⟨u1, u2, ⟨x', y', f1, f2, f3, f4⟩, f5⟩ := hG.pairs j b e1
      rw [e2] at f1
      rw [e3] at f2
      cases f1
      cases f2
      exact ⟨by show 2 ≤ sizeLine; decide, [u1, u2], .cons f3 (.cons f4 .nil), ⟨_, f5, rfl, _, rfl⟩⟩
    · by_cases hb2 : b = S
      · rw [hb2] at q ⊢
        rw [eS] at q
        cases q
        refine ⟨by rw [List.length_map]; omega, acc.toList, c, by rw [hacc]; exact LiI.vals_refs as, ?_⟩
        rw [Array.toArray_toList]
        exact hS
      · rw [off b hb hb2] at q
        exact (I.hok b u q).stay (fun d v _ y => hk d v y) (fun d y => kp d _ y) fun d xs y => kp d _ y
def tLZ (K : PySem.W.Frag) (ta : TA) : TE := fun σ H Q => ta σ H fun vs H1 => ∃ t1 t2 a b xs ys, vs = [.ref a, .ref b] ∧ IsSq K H1 t1 a xs ∧ IsSq K H1 t2 b ys ∧ ∀ (H' : Hp) (S : Addr) (as : List Addr), Same H1 H' → H1 S = none → (∀ t ∈ as, H1 t = none) → S ∉ as →
  as.length = (xs.zip ys).length → H' S = some (.lst (as.map V.ref)) → (∀ (j : Nat) (t : Addr), as[j]? = some t → ∃ x y, xs[j]? = some x ∧ ys[j]? = some y ∧ H' t = some (.tup [x, y])) → Q (.ref S) H'
theorem pe_listZip {e e2 : Expr} {ta : TA} {p pos p2 pos2 : Pos} (hc : X.calm = true) (hg : Gl X "zip") (hm : X.mg "zip" = none) (hg2 : Gl X "list") (hm2 : X.mg "list" = none) (ha : PA X [e, e2] ta)
    (hs : starEach [e, e2] X.env = (false, eval e X.env) :: starEach [e2] X.env := by rfl) (hpl : (backTo pos2 (starEach [e2] X.env)).any (·.1) = false := by rfl)
    (hs2 : starEach [.Call (.Name "zip" p2) [e, e2] [] pos2] X.env = (false, eval (.Call (.Name "zip" p2) [e, e2] [] pos2) X.env) :: starEach [] X.env := by rfl) :
    PE X (.Call (.Name "list" p) [.Call (.Name "zip" p2) [e, e2] [] pos2] [] pos) (tLZ X.K ta) := by
  refine ⟨fun pins s σ H Q I hq => ?_⟩
  refine wpAny_Call_Name_kw (ld_blt I hg2 hm2 PyProof.Rows.boot_list ?_)
  refine PyProof.Rows.callWith_type1 ?_ hs2 rfl
  rw [hs2]
  show wpAny _ _ (spliced ((false, eval (.Call (.Name "zip" p2) [e, e2] [] pos2) X.env) :: backTo pos (starEach [] X.env))) _ _ s
  refine Calls.spliced_cons ?_
  refine Call_ (ld_blt I hg hm PyProof.Rows.boot_zip (PyProof.Rows.callWith_type1 (thn (ha.run pos2 pins s σ H _ I hq) fun us s1 ⟨vs, H1, I1, r1, q1⟩ => ?_) hs hpl))
  obtain ⟨t1, t2, a, b, xs, ys, ex, hqx, hqy, q⟩ := q1
  subst ex
  cases r1 with
  | cons r rr =>
    cases rr with
    | cons r' rr =>
      cases rr
      cases r
      cases r'
      obtain ⟨its, rv, p1, l1⟩ := inv_sq I1 hqx
      obtain ⟨its2, rv2, p2', l2⟩ := inv_sq I1 hqy
      have e1 := rv.length
      have e2' := rv2.length
      refine call_zipS p1 p2' fun h' hz hTI hTO h1 h2 hsz hk => ?_
      refine Calls.spliced_nil ?_
      have hk' : ∀ (h'' : Heap), (∀ b o, b ≠ s1.heap.objs.size + 4 → b ≠ s1.heap.objs.size + 3 → b ≠ s1.heap.objs.size → b ≠ s1.heap.objs.size + 1 → h'.get? b = some o → h''.get? b = some o) → ∀ b o, s1.heap.get? b = some o → h''.get? b = some o := fun h'' k b o e => by
        have hb : b < s1.heap.objs.size := Heap.lt_size e
        exact k b o (Nat.ne_of_lt (Nat.lt_of_lt_of_le hb (Nat.le_add_right _ _))) (Nat.ne_of_lt (Nat.lt_of_lt_of_le hb (Nat.le_add_right _ _))) (Nat.ne_of_lt hb) (Nat.ne_of_lt (Nat.lt_of_lt_of_le hb (Nat.le_add_right _ _))) (hk b o e)
      have ha' : a < h'.objs.size := by rw [hsz]; exact Nat.lt_of_lt_of_le p1.lt (Nat.le_add_right _ _)
      have hb' : b < h'.objs.size := by rw [hsz]; exact Nat.lt_of_lt_of_le p2'.lt (Nat.le_add_right _ _)
      have n1 : s1.heap.objs.size < h'.objs.size := h1.lt
      have n2 : s1.heap.objs.size + 1 < h'.objs.size := h2.lt
      refine zl_call (s := { s1 with heap := h' }) (I1.ok.hd hc) (sep5 p1.lt p2'.lt) (fun B hB => draws_sq (t := t1) hB _ a (Nat.ne_of_lt p1.lt) its.toArray) (fun B hB => draws_sq (t := t2) hB _ b (Nat.ne_of_lt (Nat.lt_succ_of_lt p2'.lt)) its2.toArray)
        (by show min its.toArray.size its2.toArray.size ≤ sizeLine; simp only [List.size_toArray]; omega) hz hTI hTO ⟨h1, p1.at fun o e => hk _ o e⟩ ⟨h2, p2'.at fun o e => hk _ o e⟩ (fun c hcm => ?_) (fun c hcm => ?_) fun h'' tk acc c as hk2 hS hl hG hacc => ?_
      · rcases (by simpa using hcm : c = s1.heap.objs.size ∨ c = a) with z | z
        · rw [z]; exact n1
        · rw [z]; exact ha'
      · rcases (by simpa using hcm : c = s1.heap.objs.size + 1 ∨ c = b) with z | z
        · rw [z]; exact n2
        · rw [z]; exact hb'
      · have hzl : (xs.zip ys).length = min xs.length ys.length := List.length_zip
        have hl' : as.length = (xs.zip ys).length := by
          rw [hl, hzl]
          simp only [List.size_toArray]
          omega
        obtain ⟨H', k1, k2, k3, k4, k5, k6, J⟩ := pairs_laid (tk := tk) I1 (xs := xs) (ys := ys) (by omega) (show s1.heap.objs.size ≤ h'.objs.size from Nat.le_of_lt n1) (hk' h'' hk2) hS hl'
          ⟨hG.rise, hG.above, fun j t hj => by
            obtain ⟨u, v, ⟨g1, g2⟩, g3⟩ := hG.pairs j t hj
            have jl : j < as.length := (List.getElem?_eq_some_iff.mp hj).1
            have jx : j < xs.length := by omega
            have jy : j < ys.length := by omega
            obtain ⟨u', w1, w2⟩ := rv.get (List.getElem?_eq_getElem jx)
            obtain ⟨v', w3, w4⟩ := rv2.get (List.getElem?_eq_getElem jy)
            have g1' : its[j]? = some u := by simpa using g1
            have g2' : its2[j]? = some v := by simpa using g2
            rw [w1] at g1'
            rw [w3] at g2'
            cases g1'
            cases g2'
            exact ⟨_, _, ⟨_, _, List.getElem?_eq_getElem jx, List.getElem?_eq_getElem jy, w2, w4⟩, g3⟩⟩ hacc
        exact ⟨.ref _, H', J, rfl, q H' _ as k1 k2 k3 k4 hl' k5 k6⟩
variable {e e2 : Expr} {fa fb : EvF}
def mLZip (f f2 : EvF) : EvA := fun ρ => bnd (mZip f f2 ρ) fun p => .ok p
theorem dl_listZip {p pos p2 pos2 : Pos} (hc : X.calm = true) (hm : X.mg "zip" = none) (hm2 : X.mg "list" = none) (ha : PE X e (tE X.K J fa)) (hb : PE X e2 (tE X.K J fb)) (hg : Gl X "zip" := by rfl) (hg2 : Gl X "list" := by rfl)
    (hs : starEach [e, e2] X.env = (false, eval e X.env) :: starEach [e2] X.env := by rfl) (hpl : (backTo pos2 (starEach [e2] X.env)).any (·.1) = false := by rfl) (hs3 : starEach (e2 :: []) X.env = (false, eval e2 X.env) :: starEach [] X.env := by rfl)
    (hs2 : starEach [.Call (.Name "zip" p2) [e, e2] [] pos2] X.env = (false, eval (.Call (.Name "zip" p2) [e, e2] [] pos2) X.env) :: starEach [] X.env := by rfl) :
    PE X (.Call (.Name "list" p) [.Call (.Name "zip" p2) [e, e2] [] pos2] [] pos) (tL X.K J (mZip fa fb)) := by
  refine PE.by (pe_listZip hc hg hm hg2 hm2 (pa_cons ha (pa_cons hb pa_nil hs3) hs) hs hpl hs2) ?_
  rintro σ H Q ⟨G, ρ, R, h⟩
  refine ⟨G, ρ, R, h.bnd fun p h x H1 R1 r1 => ⟨G.hold x p.1, p.2, R1.hold r1, h.hold.bnd fun p2 h y H2 R2 r2 => ?_⟩⟩
  obtain ⟨ρ2, ex⟩ : ∃ ρ2, ρ2 = p2.2 := ⟨_, rfl⟩
  rw [← ex] at h R2 r2
  obtain ⟨z, h3, h⟩ := h.pur
  obtain ⟨z2, h4, h⟩ := h.pur
  have hq := h.ok
  obtain ⟨a, rfl⟩ := held_ref r1 h3
  obtain ⟨b, rfl⟩ := held_ref r2 h4
  obtain ⟨R3, r1'⟩ := R2.unhold
  obtain ⟨vs, q, r⟩ := held_sq r1' h3
  obtain ⟨vs2, q2, r2'⟩ := held_sq r2 h4
  refine ⟨z.1, z2.1, a, b, vs, vs2, rfl, q, q2, fun H' S as sm nS nas nSa hl hS hp kf => ?_⟩
  have R4 := R3.freshS nS sm kf hS
  have hK : X.K.lookup S = none := kf.free hS
  refine hq S _ H' R4 hS ?_ (R3.nown nS) fun o zz => by
    have := R3.keep S o zz
    rw [nS] at this
    cases this
  -- the pairs
  have key : ∀ (n : Nat) (as : List Addr) (vs vs2 : List V) (ds ds2 : List D), RpA X.K (MM G ρ2 σ) H2 vs ds → RpA X.K (MM G ρ2 σ) H2 vs2 ds2 → as.length = (vs.zip vs2).length → (∀ t ∈ as, H2 t = none) → S ∉ as →
      (∀ (j : Nat) (t : Addr), as[j]? = some t → ∃ x y, vs[j]? = some x ∧ vs2[j]? = some y ∧ H' t = some (.tup [x, y])) → RpA X.K (MM (G.add S) ρ2 σ) H' (as.map V.ref) (zipL ds ds2) := by
    intro _ as
    induction as with
    | nil =>
      intro vs vs2 ds ds2 r r2 hl _ _ _
      have : zipL ds ds2 = [] := by
        have e := zipL_len (xs := ds) (ys := ds2)
        rw [← r.len, ← r2.len, ← List.length_zip, ← hl] at e
        exact List.eq_nil_of_length_eq_zero e
      rw [this]
      exact .nil
    | cons t as ih =>
      intro vs vs2 ds ds2 r r2 hl na nS' hp
      cases r with
      | nil => simp at hl
      | cons rx rr =>
        cases r2 with
        | nil => simp at hl
        | cons ry rr2 =>
          obtain ⟨x, y, e1, e2, e3⟩ := hp 0 t rfl
          simp at e1 e2
          subst e1 e2
          have up : ∀ {v : V} {d : D}, Rp X.K (MM G ρ2 σ) H2 v d → Rp X.K (MM (G.add S) ρ2 σ) H' v d := fun {v d} h => ((h.off hK nS).weak fun c zz => mm_add.mp zz).same sm
          refine .cons (.tup (fun zz => ?_) (SqT.of e3) (.cons (up rx) (.cons (up ry) .nil))) (ih _ _ _ _ rr rr2 (by simpa using hl) (fun t' ht => na t' (List.mem_cons_of_mem _ ht)) (fun zz => nS' (List.mem_cons_of_mem _ zz)) fun j t' hj => by
            have := hp (j + 1) t' (by simpa using hj)
            simpa using this)
          rcases mm_add.mp zz with zz | zz
          · exact R3.domM _ zz (na t List.mem_cons_self)
          · exact nS' (by rw [← zz]; exact List.mem_cons_self)
  exact key 0 as vs vs2 _ _ r r2' hl nas nSa hp
end
end L2.DL

namespace L2.DL
open PySem PySem.Spec PyProof.Rows

/-! ## sorted, min, max -/
section
variable {X : Cx} {J : Jx} {pins : List (Addr × Obj)} {σ : St} {H : Hp} {s : Shared} {M : Addr → Prop}
open Classical in
noncomputable def sortS : Bool × List D → Res (List D) := fun p => if p.1 = false ∧ PyData.plainAll p.2 = true ∧ PySem.W.AllAlike p.2 ∧ PySem.W.Sortable p.2 ∧ p.2.length ≤ lim ∧ ∀ d ∈ p.2, d.depth ≤ 60 then .ok (p.2.mergeSort (PySem.W.dataLe false (fun d : D => d))) else stuck
theorem plain_mem : ∀ {xs : List D}, PyData.plainAll xs = true → ∀ d ∈ xs, PyData.plain d = true
  | [], _, d, h => nomatch h
  | x :: xs, e, d, h => by
    rw [PyData.plainAll, Bool.and_eq_true] at e
    rcases List.mem_cons.mp h with z | z
    · rw [z]; exact e.1
    · exact plain_mem e.2 d z
theorem each_of {R : Value → V × D → Prop} : ∀ {ws : List V} {ds : List D} {us : List Value}, RpA X.K M H ws ds → Vals ws us → (∀ v d u, d ∈ ds → Rp X.K M H v d → RelV v u → R u (v, d)) → PySem.W.EachIs R us (ws.zip ds)
  | _, _, _, .nil, .nil, _ => .nil
  | _, _, _, .cons r t, .cons p q, h => .cons (h _ _ _ List.mem_cons_self r p) (each_of t q fun v d u m => h v d u (List.mem_cons_of_mem _ m))
theorem vals_each {R : Value → V × D → Prop} (h : ∀ u p, R u p → RelV p.1 u) : ∀ {us : List Value} {ps : List (V × D)}, PySem.W.EachIs R us ps → Vals (ps.map Prod.fst) us
  | _, _, .nil => .nil
  | _, _, .cons r t => .cons (h _ _ r) (vals_each h t)
theorem rpA_each {R : Value → V × D → Prop} (h : ∀ u p, R u p → Rp X.K M H p.1 p.2) : ∀ {us : List Value} {ps : List (V × D)}, PySem.W.EachIs R us ps → RpA X.K M H (ps.map Prod.fst) (ps.map Prod.snd)
  | _, _, .nil => .nil
  | _, _, .cons r t => .cons (h _ _ r) (rpA_each h t)
theorem zip_snd : ∀ {ws : List V} {ds : List D}, ws.length = ds.length → (ws.zip ds).map Prod.snd = ds
  | [], [], _ => rfl
  | [], _ :: _, h => by cases h
  | _ :: _, [], h => by cases h
  | w :: ws, d :: ds, h => by
    show d :: (ws.zip ds).map Prod.snd = d :: ds
    rw [zip_snd (Nat.succ.inj h)]
theorem cd_sorted (hu : X.A.units + 64 < cLine) : CallR X (.builtin "sorted") (rSqL X.K sortS) := by
  rintro pins s σ H vs us Q I r ⟨M, t, a, ws, xs, z, rfl, hs, hr, hg, hq⟩
  unfold sortS at hg
  split at hg
  · rename_i hc
    obtain ⟨ht, hpl, h1, h2, h3, h4⟩ := hc
    dsimp only at ht hpl h1 h2 h3 h4
    subst ht
    cases hg
    unfold IsSq at hs
    rw [if_neg Bool.false_ne_true] at hs
    obtain ⟨its, rv, hl, hz⟩ := I.list hs
    rw [Vals.ref1 r]
    have hl' := hr.len
    have e2 : (ws.zip xs).map Prod.snd = xs := zip_snd hl'
    have en : (ws.zip xs).length = xs.length := by rw [List.length_zip]; omega
    refine PySem.W.sorted_data (β := V × D) (bs := ws.zip xs) (enc := Prod.snd) (R := fun u p => RelV p.1 u ∧ Rp X.K M H p.1 p.2) hl.isList (each_of hr rv fun v d u _ q1 q2 => ⟨q2, q1⟩) (each_of hr rv fun v d u m q1 q2 => q1.reads I (plain_mem hpl d m) q2) (by rw [e2]; exact h1) (by rw [e2]; exact h2) (by rw [en]; exact lim_le h3)
      (fun b hb => ?_) fun out hlo e => ?_
    · have : b.2 ∈ xs := by rw [← e2]; exact List.mem_map.mpr ⟨b, hb, rfl⟩
      have := h4 _ this
      omega
    · obtain ⟨ep, he'⟩ := PyProof.Rows.sortedAll_at s.heap its out.toArray
      have v1 := vals_each (R := fun u (p : V × D) => RelV p.1 u ∧ Rp X.K M H p.1 p.2) (fun u p q => q.1) e
      have v2 := rpA_each (R := fun u (p : V × D) => RelV p.1 u ∧ Rp X.K M H p.1 p.2) (fun u p q => q.2) e
      have e3 : ((ws.zip xs).mergeSort (PySem.W.dataLe false Prod.snd)).map Prod.snd = xs.mergeSort (PySem.W.dataLe false (fun d : D => d)) := by
        have em := List.map_mergeSort (r := PySem.W.dataLe false (Prod.snd : V × D → D)) (s := PySem.W.dataLe false (fun d : D => d)) (f := Prod.snd) (l := ws.zip xs) (fun _ _ _ _ => rfl)
        rw [e2] at em
        exact em
      rw [e3] at v2
      have hlen : (((ws.zip xs).mergeSort (PySem.W.dataLe false Prod.snd)).map Prod.fst).length ≤ sizeLine := by
        rw [List.length_map, List.length_mergeSort, en]
        exact lim_le h3
      exact ⟨.ref _, upd H (s.heap.objs.size + 1) (.lst (((ws.zip xs).mergeSort (PySem.W.dataLe false Prod.snd)).map Prod.fst)), I.laid (t' := s.toks) (fun _ _ => PyProof.Rows.sortedAll_old) (Nat.le_succ _) ⟨hlen, out, ep, v1, he'⟩, rfl, hq _ _ (I.hok.fresh (Nat.le_succ _)) v2⟩
  · cases hg
open Classical in
noncomputable def bestS (g : D → List D → D) : Bool × List D → Res D := fun p => match p.2 with
  | [] => stuck
  | x :: xs => if PyData.plainAll (x :: xs) = true ∧ PySem.W.AlikeAll (x :: xs) ∧ PyData.depthAll (x :: xs) ≤ 60 then .ok (g x xs) else stuck
theorem best_ret {ws : List V} {xs : List D} {its : List Value} {g : D} {i : Nat} {v : Value} {h' : Heap} {bs : List Addr} (I : Inv X pins σ H s) (hpl : PyData.plainAll xs = true) (hr : RpA X.K M H ws xs) (rv : Vals ws its) (hv : its.toArray[i]? = some v) (rd : Reads h' v g bs)
    (hk : ∀ b o, s.heap.get? b = some o → h'.get? b = some o) : ∃ x, RelV x v ∧ Rp X.K M H x g := by
  have hv' : its[i]? = some v := by simpa using hv
  have hl := rv.length
  have il : i < ws.length := by
    have := (List.getElem?_eq_some_iff.mp hv').1
    omega
  obtain ⟨u, w1, w2⟩ := rv.get (List.getElem?_eq_getElem il)
  rw [hv'] at w1
  cases w1
  obtain ⟨d, g1, g2⟩ := hr.get (List.getElem?_eq_getElem il)
  obtain ⟨as, q⟩ := g2.reads I (plain_mem hpl _ (List.mem_of_getElem? g1)) w2
  have q' := PyProof.Rows.Reads.keeps hk q
  obtain ⟨e, _⟩ := Reads.unique rd _ _ q'
  subst e
  exact ⟨_, w2, g2⟩
theorem cd_minL (hc : X.calm = true) (hu : X.A.units + 64 < cLine) : CallR X (.builtin "min") (rSq X.K (bestS PySem.W.minD)) := by
  rintro pins s σ H vs us Q I r ⟨M, t, a, ws, xs, z, rfl, hs, hr, hm, hn, hg, hq⟩
  unfold bestS at hg
  dsimp only at hg
  cases xs with
  | nil => cases hg
  | cons x xs =>
    dsimp only at hg
    have hg' : (PyData.plainAll (x :: xs) = true ∧ PySem.W.AlikeAll (x :: xs) ∧ PyData.depthAll (x :: xs) ≤ 60) ∧ PySem.W.minD x xs = z := by
      split at hg
      · rename_i hh
        cases hg
        exact ⟨hh, rfl⟩
      · cases hg
    obtain ⟨⟨hpl, h1, h2⟩, e⟩ := hg'
    subst e
    rw [Vals.ref1 r]
    obtain ⟨its, rv, p, _⟩ := inv_sq I hs
    obtain ⟨as, rd⟩ := hr.reads I hpl rv
    unfold SeqAt at p
    cases t with
    | true =>
      rw [if_pos rfl] at p
      refine PySem.W.min_tuple_data (I.ok.hd hc) p rd h1 (by omega) fun i v h' tk bs hv rb hk => ?_
      obtain ⟨x', w1, w2⟩ := best_ret I hpl hr rv hv rb hk
      exact ⟨x', H, I.kept (t' := tk) hk, w1, hq _ _ (Same.refl _) w2⟩
    | false =>
      rw [if_neg Bool.false_ne_true] at p
      refine PySem.W.min_list_data (I.ok.hd hc) p rd h1 (by omega) fun i v h' tk bs hv rb hk => ?_
      obtain ⟨x', w1, w2⟩ := best_ret I hpl hr rv hv rb hk
      exact ⟨x', H, I.kept (t' := tk) hk, w1, hq _ _ (Same.refl _) w2⟩
theorem cd_maxL (hc : X.calm = true) (hu : X.A.units + 64 < cLine) : CallR X (.builtin "max") (rSq X.K (bestS PySem.W.maxD)) := by
  rintro pins s σ H vs us Q I r ⟨M, t, a, ws, xs, z, rfl, hs, hr, hm, hn, hg, hq⟩
  unfold bestS at hg
  dsimp only at hg
  cases xs with
  | nil => cases hg
  | cons x xs =>
    dsimp only at hg
    have hg' : (PyData.plainAll (x :: xs) = true ∧ PySem.W.AlikeAll (x :: xs) ∧ PyData.depthAll (x :: xs) ≤ 60) ∧ PySem.W.maxD x xs = z := by
      split at hg
      · rename_i hh
        cases hg
        exact ⟨hh, rfl⟩
      · cases hg
    obtain ⟨⟨hpl, h1, h2⟩, e⟩ := hg'
    subst e
    rw [Vals.ref1 r]
    obtain ⟨its, rv, p, _⟩ := inv_sq I hs
    obtain ⟨as, rd⟩ := hr.reads I hpl rv
    unfold SeqAt at p
    cases t with
    | true =>
      rw [if_pos rfl] at p
      refine PySem.W.max_tuple_data (I.ok.hd hc) p rd h1 (by omega) fun i v h' tk bs hv rb hk => ?_
      obtain ⟨x', w1, w2⟩ := best_ret I hpl hr rv hv rb hk
      exact ⟨x', H, I.kept (t' := tk) hk, w1, hq _ _ (Same.refl _) w2⟩
    | false =>
      rw [if_neg Bool.false_ne_true] at p
      refine PySem.W.max_list_data (I.ok.hd hc) p rd h1 (by omega) fun i v h' tk bs hv rb hk => ?_
      obtain ⟨x', w1, w2⟩ := best_ret I hpl hr rv hv rb hk
      exact ⟨x', H, I.kept (t' := tk) hk, w1, hq _ _ (Same.refl _) w2⟩
end

/-! ## comparisons of a list of the def's own -/
section
variable {X : Cx} {J : Jx} {x : Str} {px pos : Pos} {b e : Expr} {fb : EvF}
theorem own_false {K : PySem.W.Frag} {J : Jx} {G : Gh} {ρ : DEnv} {σ : St} {H : Hp} {i : Nat} {bb : Bool} {xs : List D} (R : Rel K J G ρ σ H) (h : ρ[i]? = some (some (Sl.own bb xs))) : ∃ a, σ[i]? = some (some (V.ref a)) ∧ Rp K (fun _ => False) H (.ref a) (.list xs) := by
  obtain ⟨a, u, h1, h2, h3, _⟩ := R.own i bb _ h
  obtain ⟨vs, rfl, h4⟩ := h3.lst_inv
  exact ⟨a, h1, .lst (fun z => z) (SqL.of h2) (h4.weak fun _ z => z.elim)⟩
def mCmpO (g : D → D → Res Bool) (i : Nat) (fb : EvF) : EvF := fun ρ => bnd (pur (ownAt i ρ)) fun _ => bnd (fb ρ) fun q => bnd (pur (ownAt i q.2)) fun xs => bnd (pur (g (.list xs) q.1)) fun k => .ok (.bool k, q.2)
theorem rd_cmpO {K : PySem.W.Frag} {J : Jx} {g : D → D → Res Bool} {i : Nat} {σ : St} {H : Hp} {G : Gh} {ρ : DEnv} {kk : D × DEnv → Prop} {Q : VK} (R : Rel K J G ρ σ H) (h : Out (wE K J G σ) (mCmpO g i fb ρ) kk) (hq : ∀ k ρ' H', kk (.bool k, ρ') → Rel K J G ρ' σ H' → Q (.bl k) H') : tVar i σ H fun x H1 => tE K J fb σ H1 fun y H2 => rB K g x y H2 Q := by
  obtain ⟨_, h0, h⟩ := h.pur
  obtain ⟨b0, e0⟩ := ownAt_inv h0
  obtain ⟨a0, s0, _⟩ := own_false R e0
  refine ⟨_, s0, G, ρ, R, h.bnd fun p h y H2 R2 r2 => ?_⟩
  obtain ⟨xs, h2, h⟩ := h.pur
  obtain ⟨k, h3, h⟩ := h.pur
  obtain ⟨b1, e1⟩ := ownAt_inv h2
  obtain ⟨a1, s1, r1⟩ := own_false R2 e1
  rw [s0] at s1
  cases s1
  exact ⟨fun _ => False, _, _, k, r1, r2.weak fun _ z => z.elim, h3, hq k _ _ h.ok R2⟩
theorem de_cmpO (i : Nat) {op : CmpOp} {g : D → D → Res Bool} (ho : OpR X (compareOp op) (rB X.K g)) (hb : PE X b (tE X.K J fb)) (hN : X.N[i]? = some x := by rfl) (hv : Vis X.env.scope x := by first | exact Or.inl rfl | exact Or.inr (Or.inl rfl) | exact Or.inr (Or.inr rfl)) (hd : (x == ("__debug__" : Str)) = false := by decide)
    (hcd : (x == ("__classdict__" : Str)) = false := by decide) (hm : behindInMarks op b = false := by first | exact nomark _ | rfl) : PE X (.Compare (.Name x px) [op] [b] pos) (tE X.K J (mCmpO g i fb)) := by
  refine PE.by (pe_cmpR ho (pv i hN hv hd hcd) hb hm) ?_
  rintro σ H Q ⟨G, ρ, R, h⟩
  exact rd_cmpO R h fun k ρ' H' z R' _ => z _ _ R' (.bl k)
theorem dt_cmpO (i : Nat) {op : CmpOp} {g : D → D → Res Bool} (ho : OpR X (compareOp op) (rB X.K g)) (hb : PE X b (tE X.K J fb)) (hN : X.N[i]? = some x := by rfl) (hv : Vis X.env.scope x := by first | exact Or.inl rfl | exact Or.inr (Or.inl rfl) | exact Or.inr (Or.inr rfl)) (hd : (x == ("__debug__" : Str)) = false := by decide)
    (hcd : (x == ("__classdict__" : Str)) = false := by decide) (hm : behindInMarks op b = false := by first | exact nomark _ | rfl) : PT X (.Compare (.Name x px) [op] [b] pos) (tTs X.K J (mCmpO g i fb)) := by
  refine PT.by (pt_cmpR ho (pv i hN hv hd hcd) hb hm) ?_
  rintro σ H Q ⟨G, ρ, R, h⟩
  refine rd_cmpO (Q := fun v H' => ∃ b, v = .bl b ∧ (KF X.K H' → Q b H')) R h fun k ρ' H' z R' => ?_
  obtain ⟨b, e, z⟩ := z
  cases e
  exact ⟨_, rfl, fun _ => z _ R'⟩
/-- e in xs, e not in xs, xs a list of the def's own -/
def mCmpR (g : D → D → Res Bool) (fa : EvF) (i : Nat) : EvF := fun ρ => bnd (fa ρ) fun p => bnd (pur (ownAt i p.2)) fun xs => bnd (pur (g p.1 (.list xs))) fun k => .ok (.bool k, p.2)
theorem rd_cmpR {K : PySem.W.Frag} {J : Jx} {g : D → D → Res Bool} {i : Nat} {σ : St} {H : Hp} {G : Gh} {ρ : DEnv} {kk : D × DEnv → Prop} {Q : VK} (R : Rel K J G ρ σ H) (h : Out (wE K J G σ) (mCmpR g fb i ρ) kk) (hq : ∀ k ρ' H', kk (.bool k, ρ') → Rel K J G ρ' σ H' → Q (.bl k) H') : tE K J fb σ H fun x H1 => tVar i σ H1 fun y H2 => rB K g x y H2 Q := by
  refine ⟨G, ρ, R, h.bnd fun p h y H2 R2 r2 => ?_⟩
  obtain ⟨xs, h2, h⟩ := h.pur
  obtain ⟨k, h3, h⟩ := h.pur
  obtain ⟨b1, e1⟩ := ownAt_inv h2
  obtain ⟨a1, s1, r1⟩ := own_false R2 e1
  exact ⟨_, s1, fun _ => False, _, _, k, r2.weak fun _ z => z.elim, r1, h3, hq k _ _ h.ok R2⟩
theorem de_cmpR' (i : Nat) {op : CmpOp} {g : D → D → Res Bool} (ho : OpR X (compareOp op) (rB X.K g)) (hb : PE X b (tE X.K J fb)) (hN : X.N[i]? = some x := by rfl) (hv : Vis X.env.scope x := by first | exact Or.inl rfl | exact Or.inr (Or.inl rfl) | exact Or.inr (Or.inr rfl)) (hd : (x == ("__debug__" : Str)) = false := by decide)
    (hcd : (x == ("__classdict__" : Str)) = false := by decide) (hm : behindInMarks op (.Name x px) = false := by first | exact nomark _ | rfl) : PE X (.Compare b [op] [.Name x px] pos) (tE X.K J (mCmpR g fb i)) := by
  refine PE.by (pe_cmpR ho hb (pv i hN hv hd hcd) hm) ?_
  rintro σ H Q ⟨G, ρ, R, h⟩
  exact rd_cmpR R h fun k ρ' H' z R' _ => z _ _ R' (.bl k)
theorem dt_cmpR' (i : Nat) {op : CmpOp} {g : D → D → Res Bool} (ho : OpR X (compareOp op) (rB X.K g)) (hb : PE X b (tE X.K J fb)) (hN : X.N[i]? = some x := by rfl) (hv : Vis X.env.scope x := by first | exact Or.inl rfl | exact Or.inr (Or.inl rfl) | exact Or.inr (Or.inr rfl)) (hd : (x == ("__debug__" : Str)) = false := by decide)
    (hcd : (x == ("__classdict__" : Str)) = false := by decide) (hm : behindInMarks op (.Name x px) = false := by first | exact nomark _ | rfl) : PT X (.Compare b [op] [.Name x px] pos) (tTs X.K J (mCmpR g fb i)) := by
  refine PT.by (pt_cmpR ho hb (pv i hN hv hd hcd) hm) ?_
  rintro σ H Q ⟨G, ρ, R, h⟩
  refine rd_cmpR (Q := fun v H' => ∃ b, v = .bl b ∧ (KF X.K H' → Q b H')) R h fun k ρ' H' z R' => ?_
  obtain ⟨b, e, z⟩ := z
  cases e
  exact ⟨_, rfl, fun _ => z _ R'⟩
end
end L2.DL

namespace L2.DL
open PySem PySem.Spec PyProof.Rows
theorem bt_len : bootBuiltins "len" = some (.builtin "len") := by decide +kernel
theorem bt_abs : bootBuiltins "abs" = some (.builtin "abs") := by decide +kernel
theorem bt_int : bootBuiltins "int" = some (.type "int") := by decide +kernel
theorem bt_max : bootBuiltins "max" = some (.builtin "max") := by decide +kernel
theorem bt_min : bootBuiltins "min" = some (.builtin "min") := by decide +kernel
theorem bt_tuple : bootBuiltins "tuple" = some (.type "tuple") := by decide +kernel
theorem bt_list : bootBuiltins "list" = some (.type "list") := by decide +kernel
theorem bt_sorted : bootBuiltins "sorted" = some (.builtin "sorted") := by decide +kernel
theorem bt_sum : bootBuiltins "sum" = some (.builtin "sum") := by decide +kernel
theorem bt_all : bootBuiltins "all" = some (.builtin "all") := by decide +kernel
theorem bt_any : bootBuiltins "any" = some (.builtin "any") := by decide +kernel
section
variable {X : Cx} {J : Jx} {pos : Pos}
theorem ds_par3 (i j l : Nat) {x y z : Str} {a b c : Expr} {k1 k2 k3 : Ek} {px py pz pt : Pos} {kt k2' pt2} (hc : X.calm = true) (hN : X.N.Nodup) (ha : PE X a (tK X.K J k1)) (hb : PE X b (tK X.K J k2)) (hcc : PE X c (tK X.K J k3)) (hi : X.N[i]? = some x := by rfl) (hj : X.N[j]? = some y := by rfl) (hl : X.N[l]? = some z := by rfl)
    (hij : i ≠ j := by decide) (hil : i ≠ l := by decide) (hjl : j ≠ l := by decide)
    (hx : X.env.scope.names.lookup x = some .local := by rfl) (hy : X.env.scope.names.lookup y = some .local := by rfl) (hz : X.env.scope.names.lookup z = some .local := by rfl)
    (hw : swappedStores [.Tuple [.Name x px, .Name y py, .Name z pz] kt pt] (.Tuple [a, b, c] k2' pt2) X.env = pure (some [x, y, z]) := by rfl)
    (hs : swapsWithSole [.Tuple [.Name x px, .Name y py, .Name z pz] kt pt] (.Tuple [a, b, c] k2' pt2) pos.line X.env = pure false := by rfl)
    (e1 : starEach [a, b, c] X.env = (false, eval a X.env) :: starEach [b, c] X.env := by rfl) (e2 : starEach [b, c] X.env = (false, eval b X.env) :: starEach [c] X.env := by rfl) (e3 : starEach [c] X.env = (false, eval c X.env) :: starEach [] X.env := by rfl) :
    PS X (.Assign [.Tuple [.Name x px, .Name y py, .Name z pz] kt pt] (.Tuple [a, b, c] k2' pt2) pos) (tS X.K J (mPar [i, j, l] [k1, k2, k3])) := by
  refine PS.imp (ps_par3 (ta := tKs X.K J [k1, k2, k3]) hc hN hi hj hl hij hil hjl hx hy hz (pa_cons ha (pa_cons hb (pa_cons hcc pa_ks0 e3) e2) e1) hw hs) fun E σ H h => ?_
  refine rdp h fun vs H' e q => ?_
  match vs, e, q with
  | [u, v, w], _, q =>
    refine ⟨u, v, w, rfl, ?_⟩
    have e : ((σ.set i (some u)).set j (some v)).set l (some w) = setAll [i, j, l] [u, v, w] σ := by
      show _ = ((σ.set l (some w)).set j (some v)).set i (some u)
      rw [set_comm' hij, set_comm' hil, set_comm' hjl]
    rw [e]; exact q
end
end L2.DL

namespace L2.DL
open PySem PySem.Spec PyProof.Rows
/-! ## list(range(..)), tuple(range(..)) -/
section
variable {X : Cx} {J : Jx} {a b e : Expr} {fa fb : EvF} {p pos p2 pos2 : Pos}
theorem rgV_rp {K : PySem.W.Frag} {M : Addr → Prop} {H : Hp} (lo hi : Int) : RpA K M H (rgV lo hi) (rngD lo (hi - lo).toNat) := by
  have key : ∀ l : List Nat, RpA K M H (l.map fun i => V.int (lo + (i : Nat))) (l.map fun (i : Nat) => PyData.int (lo + (i : Int))) := by
    intro l
    induction l with
    | nil => exact .nil
    | cons i l ih => exact .cons (.int _) ih
  exact key _
def kLim (p : List D × DEnv) : Res (List D × DEnv) := if p.1.length ≤ lim then .ok p else stuck
theorem kLim_ap (ds : List D) (ρ : DEnv) : kLim (ds, ρ) = if ds.length ≤ lim then .ok (ds, ρ) else stuck := rfl
def mLRg (f : EvA) : EvA := fun ρ => bnd (f ρ) kLim
theorem mLRg_ap (f : EvA) (ρ : DEnv) : mLRg f ρ = bnd (f ρ) kLim := rfl
def kTupL (p : List D × DEnv) : Res (D × DEnv) := .ok (.tuple p.1, p.2)
theorem kTupL_ap (ds : List D) (ρ : DEnv) : kTupL (ds, ρ) = .ok (.tuple ds, ρ) := rfl
def mTupL (f : EvA) : EvF := fun ρ => bnd (f ρ) kTupL
theorem mTupL_ap (f : EvA) (ρ : DEnv) : mTupL f ρ = bnd (f ρ) kTupL := rfl
theorem rg_ok {lo hi : Int} (h1 : rgOk lo = true) (h2 : rgOk hi = true) (h3 : (hi - lo).toNat ≤ lim) : RgOk lo hi := by
  have h1 := of_decide_eq_true h1
  have h2 := of_decide_eq_true h2
  have h3 : (hi - lo).toNat ≤ 1000000 := h3
  refine ⟨?_, ?_, ?_, ?_, ?_⟩
  · have : (2 : Int) ^ 62 = 4611686018427387904 := rfl
    omega
  · have : (2 : Int) ^ 62 = 4611686018427387904 := rfl
    omega
  · have : (2 : Int) ^ 62 = 4611686018427387904 := rfl
    omega
  · have : (2 : Int) ^ 62 = 4611686018427387904 := rfl
    omega
  · have : (2 : Nat) ^ 24 = 16777216 := by decide
    omega
theorem rd_rg1 {K : PySem.W.Frag} {J : Jx} {G : Gh} {ρ : DEnv} {σ : St} {H : Hp} {kk : List D × DEnv → Prop} {Q : Int → Int → Hp → Prop} (R : Rel K J G ρ σ H) (h : Out (wE K J G σ) (mLRg (mRng1 fa) ρ) kk) (hq : ∀ lo hi ρ' H', Rel K J G ρ' σ H' → kk (rngD lo (hi - lo).toNat, ρ') → RgOk lo hi → Q lo hi H') : tRg1 (tE K J fa) σ H Q := by
  have e : mLRg (mRng1 fa) ρ = bnd (fa ρ) fun p => bnd (pur (rng1 p.1)) fun z => kLim (z, p.2) := by
    unfold mLRg mRng1
    cases fa ρ with
    | error e => rfl
    | ok p => cases hk : rng1 p.1 with
      | error e => simp [hk]
      | ok q => simp [hk]
  rw [e] at h
  refine ⟨G, ρ, R, h.bnd fun p h x H1 R1 r1 => ?_⟩
  obtain ⟨z, h3, h⟩ := h.pur
  obtain ⟨d, ρ1⟩ := p
  unfold kLim at h
  split at h
  · rename_i hl
    cases d with
    | int n =>
      obtain ⟨hn, e⟩ := ite_ok h3
      subst e
      refine ⟨n, r1.int_inv, hq 0 n ρ1 H1 R1 (by rw [Int.sub_zero]; exact h.ok) (rg_ok rfl hn ?_)⟩
      rw [Int.sub_zero]
      unfold rngD at hl
      rw [List.length_map, List.length_range] at hl
      exact hl
    | _ => cases h3
  · exact h.elim
theorem rd_rg2 {K : PySem.W.Frag} {J : Jx} {G : Gh} {ρ : DEnv} {σ : St} {H : Hp} {kk : List D × DEnv → Prop} {Q : Int → Int → Hp → Prop} (R : Rel K J G ρ σ H) (h : Out (wE K J G σ) (mLRg (mRng2 fa fb) ρ) kk) (hq : ∀ lo hi ρ' H', Rel K J G ρ' σ H' → kk (rngD lo (hi - lo).toNat, ρ') → RgOk lo hi → Q lo hi H') : tRg2 (tE K J fa) (tE K J fb) σ H Q := by
  have e : mLRg (mRng2 fa fb) ρ = bnd (fa ρ) fun p => bnd (fb p.2) fun q => bnd (pur (rng2 p.1 q.1)) fun z => kLim (z, q.2) := by
    unfold mLRg mRng2
    cases fa ρ with
    | error e => rfl
    | ok p => cases hk2 : fb p.2 with
      | error e => simp [hk2]
      | ok q2 => cases hk : rng2 p.1 q2.1 with
        | error e => simp [hk, hk2]
        | ok q => simp [hk, hk2]
  rw [e] at h
  refine ⟨G, ρ, R, h.bnd fun p h x H1 R1 r1 => ⟨G, p.2, R1, h.bnd fun p2 h y H2 R2 r2 => ?_⟩⟩
  obtain ⟨d, ρ1⟩ := p
  obtain ⟨d2, ρ2⟩ := p2
  obtain ⟨z, h3, h⟩ := h.pur
  unfold kLim at h
  split at h
  · rename_i hl
    cases d with
    | int n =>
      cases d2 with
      | int m =>
        obtain ⟨hn, e⟩ := ite_ok h3
        subst e
        rw [Bool.and_eq_true] at hn
        refine ⟨n, m, r1.int_inv, r2.int_inv, hq n m ρ2 H2 R2 h.ok (rg_ok hn.1 hn.2 ?_)⟩
        unfold rngD at hl
        rw [List.length_map, List.length_range] at hl
        exact hl
      | _ => cases h3
    | _ => cases h3
  · exact h.elim
theorem dl_listRg1 (hc : X.calm = true) (hm : X.mg "range" = none) (hm2 : X.mg "list" = none) (ha : PE X a (tE X.K J fa)) (hg : Gl X "range" := by rfl) (hg2 : Gl X "list" := by rfl) (na : starEach [a] X.env = (false, eval a X.env) :: starEach [] X.env := by rfl)
    (nb : starEach [.Call (.Name "range" p2) [a] [] pos2] X.env = (false, eval (.Call (.Name "range" p2) [a] [] pos2) X.env) :: starEach [] X.env := by rfl) : PE X (.Call (.Name "list" p) [.Call (.Name "range" p2) [a] [] pos2] [] pos) (tL X.K J (mLRg (mRng1 fa))) := by
  refine PE.by (pe_listRg hc hg2 hm2 (prg_1 hg hm ha na) nb) ?_
  rintro σ H Q ⟨G, ρ, R, h⟩
  exact rd_rg1 R h fun lo hi ρ' H' R' z ok => ⟨ok, fun q hn kf => R'.newL hn kf (rgV_rp lo hi) z⟩
theorem dl_listRg2 (hc : X.calm = true) (hm : X.mg "range" = none) (hm2 : X.mg "list" = none) (ha : PE X a (tE X.K J fa)) (hb : PE X b (tE X.K J fb)) (hg : Gl X "range" := by rfl) (hg2 : Gl X "list" := by rfl) (na : starEach [a, b] X.env = (false, eval a X.env) :: starEach [b] X.env := by rfl) (nb : starEach [b] X.env = (false, eval b X.env) :: starEach [] X.env := by rfl)
    (hp : (backTo pos2 (starEach [b] X.env)).any (·.1) = false := by rfl)
    (nc : starEach [.Call (.Name "range" p2) [a, b] [] pos2] X.env = (false, eval (.Call (.Name "range" p2) [a, b] [] pos2) X.env) :: starEach [] X.env := by rfl) : PE X (.Call (.Name "list" p) [.Call (.Name "range" p2) [a, b] [] pos2] [] pos) (tL X.K J (mLRg (mRng2 fa fb))) := by
  refine PE.by (pe_listRg hc hg2 hm2 (prg_2 hg hm ha hb na nb hp) nc) ?_
  rintro σ H Q ⟨G, ρ, R, h⟩
  exact rd_rg2 R h fun lo hi ρ' H' R' z ok => ⟨ok, fun q hn kf => R'.newL hn kf (rgV_rp lo hi) z⟩
theorem de_tupRg1 (hc : X.calm = true) (hm : X.mg "range" = none) (hm2 : X.mg "tuple" = none) (ha : PE X a (tE X.K J fa)) (hg : Gl X "range" := by rfl) (hg2 : Gl X "tuple" := by rfl) (na : starEach [a] X.env = (false, eval a X.env) :: starEach [] X.env := by rfl)
    (nb : starEach [.Call (.Name "range" p2) [a] [] pos2] X.env = (false, eval (.Call (.Name "range" p2) [a] [] pos2) X.env) :: starEach [] X.env := by rfl) : PE X (.Call (.Name "tuple" p) [.Call (.Name "range" p2) [a] [] pos2] [] pos) (tE X.K J (mTupL (mLRg (mRng1 fa)))) := by
  refine PE.by (pe_tupRg hc hg2 hm2 (prg_1 hg hm ha na) nb) ?_
  rintro σ H Q ⟨G, ρ, R, h⟩
  have h2 := Out.bndI (k' := fun p => Out (wE X.K J G σ) (kTupL p) _) h fun a _ z => z
  exact rd_rg1 R h2 fun lo hi ρ' H' R' z ok => ⟨ok, fun q hn kf => z _ _ (R'.same kf (Same.upd hn)) (.tup (nM R'.domM hn) (SqT.of upd_same) (rgV_rp lo hi))⟩
end
/-! ## a, b = x, y where a or b is captured -/
section
variable {K : PySem.W.Frag} {J : Jx} {σ : St}
theorem Pend.same {ρ : DEnv} {H H' : Hp} (kf : KF K H') (s : Same H H') : ∀ {vs : List V} {ss : List Sl} {G : Gh}, Pend K J ρ σ H G vs ss → Pend K J ρ σ H' G vs ss
  | [], [], G, h => Rel.same (show Rel K J G ρ σ H from h) kf s
  | [], .dat _ :: _, _, h => h.elim
  | [], .ob _ _ :: _, _, h => h.elim
  | [], .exn _ _ :: _, _, h => h.elim
  | [], .raw :: _, _, h => h.elim
  | _ :: _, [], _, h => h.elim
  | v :: vs, .dat d :: ss, G, h => Pend.same kf s (vs := vs) (ss := ss) (G := G.hold v d) h
  | v :: vs, .ob b o :: ss, G, h => by
    obtain ⟨a, u, e1, e2, e3, e4, e5, h⟩ := h
    exact ⟨a, u, e1, e2, e3, e4, e5, Pend.same kf s h⟩
  | v :: vs, .exn _ _ :: ss, G, h => h.elim
  | v :: vs, .raw :: ss, G, h => h.elim
variable {X : Cx} {pos : Pos}
theorem rdpT {is : List Nat} {ks : List Ek} {E : Ends} {H : Hp} {Q : List V → Hp → Prop} (h : tS X.K J (mPar is ks) E σ H) (k : ∀ vs H', vs.length = is.length → (∀ H'', Same H' H'' → KF X.K H'' → E.nx (setAll is vs σ) H'') → Q vs H') : tKs X.K J ks σ H Q := by
  obtain ⟨G, ρ, R, h⟩ := h
  refine rd_par ks R h.e fun ss ρ1 vs H' h p => ?_
  dsimp only at h
  split at h
  · rename_i hc
    obtain ⟨hl, hi⟩ := hc
    exact k vs H' ((pend_len p).trans hl.symm) fun H'' sm kf => h _ _ (pend_set is (p.same kf sm) hl hi)
  · exact h.elim
theorem ds_parT (i j : Nat) {x y : Str} {a b : Expr} {k1 k2 : Ek} {px py pt' : Pos} {kt k2' pt2} (hc : X.calm = true) (hN : X.N.Nodup) (ha : PE X a (tK X.K J k1)) (hb : PE X b (tK X.K J k2)) (hi : X.N[i]? = some x := by rfl) (hj : X.N[j]? = some y := by rfl) (hij : i ≠ j := by decide)
    (hx : Loc X.env.scope x := by first | exact Or.inl rfl | exact Or.inr rfl) (hy : Loc X.env.scope y := by first | exact Or.inl rfl | exact Or.inr rfl) (hfx : X.fn x = true ∨ X.env.scope.names.lookup x = some .local := by first | exact .inl rfl | exact .inr rfl)
    (hfy : X.fn y = true ∨ X.env.scope.names.lookup y = some .local := by first | exact .inl rfl | exact .inr rfl)
    (hw : swappedStores [.Tuple [.Name x px, .Name y py] kt pt'] (.Tuple [a, b] k2' pt2) X.env = pure none := by rfl)
    (hs : swapsWithSole [.Tuple [.Name x px, .Name y py] kt pt'] (.Tuple [a, b] k2' pt2) pos.line X.env = pure false := by rfl)
    (h1 : (assignEach [.Tuple [.Name x px, .Name y py] kt pt'] X.env).map (·.2) = [assign (.Tuple [.Name x px, .Name y py] kt pt') X.env] := by rfl)
    (g1 : (assignEach [.Name x px, .Name y py] X.env).map (·.2) = assign (.Name x px) X.env :: (assignEach [.Name y py] X.env).map (·.2) := by rfl) (g2 : (assignEach [.Name y py] X.env).map (·.2) = assign (.Name y py) X.env :: (assignEach [] X.env).map (·.2) := by rfl)
    (g3 : (assignEach [.Name x px, .Name y py] X.env).length = 2 := by rfl) (g4 : (assignEach [.Name x px, .Name y py] X.env).findIdx? (·.1) = none := by rfl)
    (e1 : starEach [a, b] X.env = (false, eval a X.env) :: starEach [b] X.env := by rfl) (e2 : starEach [b] X.env = (false, eval b X.env) :: starEach [] X.env := by rfl) :
    PS X (.Assign [.Tuple [.Name x px, .Name y py] kt pt'] (.Tuple [a, b] k2' pt2) pos) (tS X.K J (mPar [i, j] [k1, k2])) := by
  refine PS.imp (ps_asg (te := fun σ H Q => tTup (tKs X.K J [k1, k2]) σ H fun v H' => KF X.K H' → Q v H') (PE.by (pe_tup (pa_cons ha (pa_cons hb pa_ks0 e2) e1)) fun _ _ _ h => h) (pg_tup hc (pgs_cons (pg_name hN hi hx hfx) (pgs_cons (pg_name hN hj hy hfy) pgs_nil g2) g1) g3 g4) hs hw h1) fun E σ H h => ?_
  refine rdpT h fun vs H' e q => ?_
  match vs, e, q with
  | [v, w], _, q =>
    refine ⟨by show 2 ≤ sizeLine; decide, fun T hT kf => ⟨T, [v, w], rfl, SqT.of upd_same, rfl, v, [w], rfl, w, [], rfl, rfl, ?_⟩⟩
    have := q _ (Same.upd hT) kf
    rw [show setAll [i, j] [v, w] σ = (σ.set i (some v)).set j (some w) from set_comm' hij] at this
    exact this
end
end L2.DL

namespace L2.DL
open PySem PySem.Spec PyProof.Rows

/-! ## a ghost step: slots are let go -/
def mKill (is : List Nat) (f : EvS) : EvS := fun ρ => f (wipeD ρ is)
theorem Rel.kill {K : PySem.W.Frag} {J : Jx} {G : Gh} {ρ : DEnv} {σ : St} {H : Hp} (R : Rel K J G ρ σ H) : ∀ (is : List Nat), Rel K J G (wipeD ρ is) σ H
  | [] => R
  | i :: is => by
    have R1 := R.kill is
    by_cases h : i < σ.length
    · have q := R1.clear (i := i) (x := σ[i])
      rw [List.set_getElem_self] at q
      exact q
    · have e : (wipeD ρ is).set i none = wipeD ρ is := List.set_eq_of_length_le (by rw [R1.len]; omega)
      show Rel K J G ((wipeD ρ is).set i none) σ H
      rw [e]
      exact R1
theorem dss_kill {X : Cx} {J : Jx} {sts : List Stmt} {fs : EvS} (is : List Nat) (h : PSs X sts (tS X.K J fs)) : PSs X sts (tS X.K J (mKill is fs)) := by
  refine PSs.imp h ?_
  rintro E σ H ⟨G, ρ, R, h⟩
  exact ⟨G, _, R.kill is, h⟩

/-! ## an expression's value, in plain sight -/
section
variable {α β γ S : Type}
/-- q speaks for x: where q is stuck, nothing is said; the slots stay -/
def EvR (x : Res (α × DEnv)) (ρ : DEnv) (q : Res α) : Prop := match q with
  | .ok a => x = .ok (a, ρ)
  | .error .stuck => True
  | .error (.exc c fs _) => x = .error (.exc c fs ρ)
abbrev Ev (f : DEnv → Res (α × DEnv)) (ρ : DEnv) (q : Res α) : Prop := EvR (f ρ) ρ q
theorem EvR.bnd {x : Res (α × DEnv)} {ρ : DEnv} {q : Res α} {F : α × DEnv → Res (β × DEnv)} {k : α → Res β} (h : EvR x ρ q) (hk : ∀ a, EvR (F (a, ρ)) ρ (k a)) : EvR (DL.bnd x F) ρ (DL.bnd q k) := by
  cases q with
  | ok a => have e : x = .ok (a, ρ) := h; rw [e]; exact hk a
  | error e =>
    cases e with
    | stuck => exact True.intro
    | exc c fs r => have e : x = .error (.exc c fs ρ) := h; rw [e]; exact rfl
theorem EvR.pur {t : Res γ} {ρ : DEnv} {F : γ → Res (β × DEnv)} {k : γ → Res β} (hk : ∀ a, EvR (F a) ρ (k a)) : EvR (DL.bnd (DL.pur t) F) ρ (DL.bnd (DL.pur t) k) := by
  cases t with
  | ok a => exact hk a
  | error e => exact True.intro
theorem EvR.ok {ρ : DEnv} {a : α} : EvR (.ok (a, ρ)) ρ (.ok a) := rfl
theorem EvR.purk {t : Res β} {ρ : DEnv} : EvR (DL.bnd (DL.pur t) fun z => .ok (z, ρ)) ρ (DL.pur t) := by
  cases t with
  | ok a => exact rfl
  | error e => exact True.intro
theorem EvR.no {x : Res (α × DEnv)} {ρ : DEnv} : EvR x ρ stuck := True.intro
theorem EvR.call {t : Res β} {ρ : DEnv} : EvR (DL.bnd (atR ρ t) fun z => .ok (z, ρ)) ρ t := by
  cases t with
  | ok a => exact rfl
  | error e => cases e with
    | stuck => exact True.intro
    | exc c fs r => exact rfl
end

/-! ## what is computed, without slots -/
@[simp] def q1 (g : D → Res D) (a : Res D) : Res D := bnd a fun x => pur (g x)
@[simp] def q2 (g : D → D → Res D) (a b : Res D) : Res D := bnd a fun x => bnd b fun y => pur (g x y)
@[simp] def qb (k : Bool) : Res D := .ok (.bool k)
@[simp] def qcmp (g : D → D → Res Bool) (a b : Res D) : Res D := bnd a fun x => bnd b fun y => bnd (pur (g x y)) qb
@[simp] def qch (g g' : D → D → Res Bool) (a b c : Res D) : Res D := bnd a fun x => bnd b fun y => bnd (pur (g x y)) fun k => if k = true then bnd c fun z => bnd (pur (g' y z)) qb else .ok (.bool false)
def qsel {α : Type} (d : D) (a b : Res α) : Res α := match d with
  | .bool true => a
  | .bool false => b
  | _ => stuck
@[simp] def qif {α : Type} (c a b : Res D) : Res D := bnd c fun d => qsel d a b
@[simp] def qifs {α : Type} (c : Res D) (a b : Res α) : Res α := bnd c fun d => qsel d a b
@[simp] def qand (a b : Res D) : Res D := bnd a fun d => qsel d b (.ok (.bool false))
@[simp] def qor (a b : Res D) : Res D := bnd a fun d => qsel d (.ok (.bool true)) b
@[simp] def qnot (a : Res D) : Res D := bnd a fun d => qsel d (.ok (.bool false)) (.ok (.bool true))
@[simp] def qnil : Res (List D) := .ok []
@[simp] def qcons (a : Res D) (l : Res (List D)) : Res (List D) := bnd a fun x => bnd l fun xs => .ok (x :: xs)
@[simp] def qtup (l : Res (List D)) : Res D := bnd l fun xs => if xs.length ≤ 1000 then .ok (.tuple xs) else stuck
@[simp] def qlst (l : Res (List D)) : Res (List D) := bnd l fun xs => if xs.length ≤ 1000 then .ok xs else stuck
@[simp] def qofL (l : Res (List D)) : Res D := bnd l fun xs => .ok (.list xs)
@[simp] def qnl (l : Res (List D)) : Res OB := bnd l fun xs => .ok (.lst xs)
def qofN (o : Res OB) : Res D := bnd o fun o => match o.dat with | some d => .ok d | none => stuck
@[simp] def qview (a : Res D) : Res (Bool × List D) := bnd a fun x => pur (seqD x)
@[simp] def qseq (a : Res D) : Res (List D) := bnd a fun x => bnd (pur (seqD x)) fun z => .ok z.2
@[simp] def qv {α : Type} (g : Bool × List D → Res α) (v : Res (Bool × List D)) : Res α := bnd v fun x => pur (g x)
@[simp] def qds (g : List D → Res D) (l : Res (List D)) : Res D := bnd l fun xs => pur (g xs)
@[simp] def qcall {α : Type} (n : Nat) (m : List D → Res α) (l : Res (List D)) : Res α := bnd l fun xs => if xs.length = n then m xs else stuck
@[simp] def qno : Res (Option Int) := .ok none
@[simp] def qso (a : Res D) : Res (Option Int) := bnd a fun d => match d with | .int i => .ok (some i) | _ => stuck
@[simp] def qsl (a : Res D) (lo hi : Res (Option Int)) : Res D := bnd a fun x => bnd lo fun l => bnd hi fun h => pur (slD x l h)
@[simp] def qslL (a : Res D) (lo hi : Res (Option Int)) : Res (List D) := bnd a fun x => bnd lo fun l => bnd hi fun h => match x with | .list xs => .ok (cutD xs l h) | _ => stuck
@[simp] def qixO (xs : List D) (b : Res D) : Res D := bnd b fun y => pur (ixD (.list xs) y)
@[simp] def qisi (T : Ty) (a : Res D) : Res D := bnd a fun x => .ok (.bool (isT T x))
@[simp] def qisiT (Ts : List Ty) (a : Res D) : Res D := bnd a fun x => .ok (.bool (Ts.any fun T => isT T x))
@[simp] def qrng1 (a : Res D) : Res (List D) := bnd a fun x => pur (rng1 x)
@[simp] def qrng2 (a b : Res D) : Res (List D) := bnd a fun x => bnd b fun y => pur (rng2 x y)
@[simp] def qlim (l : Res (List D)) : Res (List D) := bnd l fun xs => if xs.length ≤ lim then .ok xs else stuck
@[simp] def qtupL (l : Res (List D)) : Res D := bnd l fun xs => .ok (.tuple xs)
@[simp] def qenum (a : Res D) : Res (List D) := bnd a fun x => bnd (pur (seqD x)) fun z => .ok (enumL z.2)
@[simp] def qzip (a b : Res D) : Res (List D) := bnd a fun x => bnd b fun y => bnd (pur (seqD x)) fun z => bnd (pur (seqD y)) fun z2 => .ok (zipL z.2 z2.2)
@[simp] def qcmpO (g : D → D → Res Bool) (xs : List D) (b : Res D) : Res D := bnd b fun y => bnd (pur (g (.list xs) y)) qb
@[simp] def qcmpR (g : D → D → Res Bool) (a : Res D) (xs : List D) : Res D := bnd a fun x => bnd (pur (g x (.list xs))) qb
def compQ (test elt : D → Res D) : List D → Res (List D)
  | [] => .ok []
  | d :: ds => bnd (pur (test d)) fun b => qsel b (bnd (pur (elt d)) fun x => bnd (compQ test elt ds) fun xs => .ok (x :: xs)) (compQ test elt ds)
@[simp] def qcomp (test elt : D → Res D) (it : Res (List D)) : Res (List D) := bnd it fun ds => if ds.length ≤ lim then compQ test elt ds else stuck

/-! ## what is taken apart -/
inductive Tg where
  | n
  | t (l : List Tg)
mutual
def unp : Tg → D → Res (List D)
  | .n, d => .ok [d]
  | .t l, d => match d with | .tuple xs => unps l xs | _ => stuck
def unps : List Tg → List D → Res (List D)
  | [], [] => .ok []
  | t :: ts, d :: ds => bnd (unp t d) fun xs => bnd (unps ts ds) fun ys => .ok (xs ++ ys)
  | _, _ => stuck
end
def setL : List Nat → List D → DEnv → DEnv
  | i :: is, d :: ds, ρ => setL is ds (ρ.set i (some (Sl.dat d)))
  | _, _, ρ => ρ
theorem setL_len : ∀ (is : List Nat) (ds : List D) (ρ : DEnv), (setL is ds ρ).length = ρ.length
  | [], _, _ => by simp [setL]
  | _ :: _, [], _ => by simp [setL]
  | i :: is, d :: ds, ρ => by rw [setL, setL_len, List.length_set]
theorem setL_app : ∀ (is js : List Nat) (ds es : List D) (ρ : DEnv), is.length = ds.length → setL (is ++ js) (ds ++ es) ρ = setL js es (setL is ds ρ)
  | [], _, [], _, _, _ => rfl
  | [], _, _ :: _, _, _, h => by cases h
  | _ :: _, _, [], _, _, h => by cases h
  | i :: is, js, d :: ds, es, ρ, h => by
    show setL (is ++ js) (ds ++ es) _ = setL js es (setL is ds _)
    exact setL_app is js ds es _ (by simpa using h)
/-- g takes data apart as t says, into the slots is -/
structure TgOk (N : Nat) (g : EvG) (t : Tg) (is : List Nat) : Prop where
  run : ∀ (d : D) (ρ : DEnv) (l : List D), ρ.length = N → unp t d = .ok l → l.length = is.length ∧ g d ρ = .ok (setL is l ρ)
structure TgsOk (N : Nat) (g : EvGs) (ts : List Tg) (is : List Nat) (n : Nat) : Prop where
  run : ∀ (ds : List D) (ρ : DEnv) (l : List D), ρ.length = N → unps ts ds = .ok l → ds.length = n ∧ l.length = is.length ∧ g ds ρ = .ok (setL is l ρ)
theorem tg_n {N i : Nat} (h : Nat.blt i N = true := by rfl) : TgOk N (gN i) .n [i] := ⟨fun d ρ l hl e => by
  cases e
  refine ⟨rfl, ?_⟩
  unfold gN
  rw [if_pos (by rw [hl]; exact Nat.le_of_ble_eq_true h)]
  rfl⟩
theorem tgs_n {N : Nat} : TgsOk N gsN [] [] 0 := ⟨fun ds ρ l _ e => by
  cases ds with
  | nil => cases e; exact ⟨rfl, rfl, rfl⟩
  | cons d ds => cases e⟩
theorem tgs_c {N n : Nat} {g : EvG} {gs : EvGs} {t : Tg} {ts : List Tg} {is js : List Nat} (h : TgOk N g t is) (h2 : TgsOk N gs ts js n) : TgsOk N (gsC g gs) (t :: ts) (is ++ js) (n + 1) := ⟨fun ds ρ l hl e => by
  cases ds with
  | nil => cases e
  | cons d ds =>
    unfold unps at e
    obtain ⟨xs, e1, e⟩ := bnd_inv e
    obtain ⟨ys, e2, e⟩ := bnd_inv e
    cases e
    obtain ⟨l1, r1⟩ := h.run d ρ xs hl e1
    obtain ⟨l2, l3, r2⟩ := h2.run ds (setL is xs ρ) ys (by rw [setL_len]; exact hl) e2
    refine ⟨by simp [l2], by simp [l1, l3], ?_⟩
    show bnd (g d ρ) (fun ρ1 => gs ds ρ1) = _
    rw [r1, bnd_ok, r2, setL_app _ _ _ _ _ l1.symm]⟩
theorem tg_t {N n : Nat} {gs : EvGs} {ts : List Tg} {is : List Nat} (h : TgsOk N gs ts is n) : TgOk N (gT gs n) (.t ts) is := ⟨fun d ρ l hl e => by
  cases d with
  | tuple xs =>
    have e' : unps ts xs = .ok l := e
    obtain ⟨l1, l2, r⟩ := h.run xs ρ l hl e'
    refine ⟨l2, ?_⟩
    show (if xs.length = n then gs xs ρ else stuck) = _
    rw [if_pos l1, r]
  | _ => cases e⟩

/-! ## expressions -/
section
variable {ρ : DEnv} {i n : Nat} {g : D → D → Res D} {h1 : D → Res D} {gb gb' : D → D → Res Bool} {f fa fb fc ft : EvF} {fs : EvA} {fv : EvV} {fn : EvN} {fl fh : EvO} {d : D} {qa q_b qc qt : Res D} {ql : Res (List D)} {qvv : Res (Bool × List D)} {qo : Res OB} {lo hi : Res (Option Int)} {xs : List D} {b : Bool}
theorem eV (h : ρ[i]? = some (some (Sl.dat d))) : Ev (mVar i) ρ (.ok d) := by
  show mVar i ρ = .ok (d, ρ)
  unfold mVar
  rw [h]
theorem eC : Ev (mC d) ρ (.ok d) := rfl
theorem eOp (a : Ev fa ρ qa) (b : Ev fb ρ q_b) : Ev (mOp g fa fb) ρ (q2 g qa q_b) := EvR.bnd a fun _ => EvR.bnd b fun _ => EvR.purk
theorem eUn (a : Ev fa ρ qa) : Ev (mUn h1 fa) ρ (q1 h1 qa) := EvR.bnd a fun _ => EvR.purk
theorem eCmp (a : Ev fa ρ qa) (b : Ev fb ρ q_b) : Ev (mCmp gb fa fb) ρ (qcmp gb qa q_b) := EvR.bnd a fun _ => EvR.bnd b fun _ => EvR.pur fun _ => EvR.ok
theorem eCh (a : Ev fa ρ qa) (b : Ev fb ρ q_b) (c : Ev fc ρ qc) : Ev (mChain gb gb' fa fb fc) ρ (qch gb gb' qa q_b qc) := EvR.bnd a fun _ => EvR.bnd b fun _ => EvR.pur fun k => by
  cases k with
  | true => exact EvR.bnd c fun _ => EvR.pur fun _ => EvR.ok
  | false => exact EvR.ok
theorem eSel {α : Type} {x y : Res (α × DEnv)} {p q : Res α} (d : D) (ha : EvR x ρ p) (hb : EvR y ρ q) : EvR (match d with | .bool true => x | .bool false => y | _ => stuck) ρ (qsel d p q) := by
  cases d with
  | bool k => cases k <;> assumption
  | _ => exact True.intro
theorem eIf (a : Ev fc ρ qc) (b : Ev fa ρ qa) (c : Ev fb ρ q_b) : Ev (mIf fc fa fb) ρ (qifs qc qa q_b) := EvR.bnd a fun d => eSel d b c
theorem eAnd (a : Ev fa ρ qa) (b : Ev fb ρ q_b) : Ev (mAnd fa fb) ρ (qand qa q_b) := EvR.bnd a fun d => eSel d b EvR.ok
theorem eOr (a : Ev fa ρ qa) (b : Ev fb ρ q_b) : Ev (mOr fa fb) ρ (qor qa q_b) := EvR.bnd a fun d => eSel d EvR.ok b
theorem eNot (a : Ev fa ρ qa) : Ev (mNot fa) ρ (qnot qa) := EvR.bnd a fun d => by
  cases d with
  | bool k => cases k <;> exact rfl
  | _ => exact True.intro
theorem eNil : Ev mNil ρ qnil := rfl
theorem eCons (a : Ev fa ρ qa) (b : Ev fs ρ ql) : Ev (mCons fa fs) ρ (qcons qa ql) := EvR.bnd a fun _ => EvR.bnd b fun _ => EvR.ok
theorem eTup (a : Ev fs ρ ql) : Ev (mTup fs) ρ (qtup ql) := EvR.bnd a fun xs => by
  by_cases h : xs.length ≤ 1000
  · simp only [h, if_true]; exact EvR.ok
  · simp only [h, if_false]; exact True.intro
theorem eLst (a : Ev fs ρ ql) : Ev (mLst fs) ρ (qlst ql) := EvR.bnd a fun xs => by
  by_cases h : xs.length ≤ 1000
  · simp only [h, if_true]; exact EvR.ok
  · simp only [h, if_false]; exact True.intro
theorem eOfL (a : Ev fs ρ ql) : Ev (mOfL fs) ρ (qofL ql) := EvR.bnd a fun _ => EvR.ok
theorem eNL (a : Ev fs ρ ql) : Ev (mNL fs) ρ (qnl ql) := EvR.bnd a fun _ => EvR.ok
theorem eOfN (a : Ev fn ρ qo) : Ev (mOfN fn) ρ (qofN qo) := EvR.bnd a fun o => by
  cases h : o.dat with
  | some d => simp only [h]; exact EvR.ok
  | none => simp only [h]; exact True.intro
theorem eView (a : Ev fa ρ qa) : Ev (mView fa) ρ (qview qa) := EvR.bnd a fun _ => EvR.purk
theorem eSeqI (a : Ev fa ρ qa) : Ev (mSeqI fa) ρ (qseq qa) := EvR.bnd a fun _ => EvR.pur fun _ => EvR.ok
theorem eOwn (h : ρ[i]? = some (some (Sl.ob b (.lst xs)))) : Ev (mOwn i) ρ (.ok (false, xs)) := by
  show mOwn i ρ = .ok ((false, xs), ρ)
  unfold mOwn
  rw [h]
theorem ownAt_of (h : ρ[i]? = some (some (Sl.ob b (.lst xs)))) : ownAt i ρ = .ok xs := by unfold ownAt; rw [h]
theorem ownAt2_of (h : ρ[i]? = some (some (Sl.ob b (.lst xs)))) : ownAt2 i ρ = .ok (b, xs) := by unfold ownAt2; rw [h]
theorem eIxO (h : ρ[i]? = some (some (Sl.ob b (.lst xs)))) (a : Ev fb ρ q_b) : Ev (mIxOwn i fb) ρ (qixO xs q_b) := by
  show EvR (mIxOwn i fb ρ) ρ _
  unfold mIxOwn
  rw [ownAt_of h, pur_ok, bnd_ok]
  refine EvR.bnd a fun y => ?_
  dsimp only
  rw [ownAt_of h, pur_ok, bnd_ok]
  exact EvR.purk
theorem eNo : Ev mNo ρ qno := rfl
theorem eSo (a : Ev fa ρ qa) : Ev (mSo fa) ρ (qso qa) := EvR.bnd a fun d => by
  cases d with
  | int i => exact rfl
  | _ => exact True.intro
theorem eSl (a : Ev fa ρ qa) (b : Ev fl ρ lo) (c : Ev fh ρ hi) : Ev (mSl fa fl fh) ρ (qsl qa lo hi) := EvR.bnd a fun _ => EvR.bnd b fun _ => EvR.bnd c fun _ => EvR.purk
theorem eSlL (a : Ev fa ρ qa) (b : Ev fl ρ lo) (c : Ev fh ρ hi) : Ev (mSlL fa fl fh) ρ (qslL qa lo hi) := EvR.bnd a fun x => EvR.bnd b fun _ => EvR.bnd c fun _ => by
  cases x with
  | list xs => exact rfl
  | _ => exact True.intro
theorem eMV {gv : Bool × List D → Res D} (a : Ev fv ρ qvv) : Ev (mV gv fv) ρ (qv gv qvv) := EvR.bnd a fun _ => EvR.purk
theorem eMVL {gv : Bool × List D → Res (List D)} (a : Ev fv ρ qvv) : Ev (mVL gv fv) ρ (qv gv qvv) := EvR.bnd a fun _ => EvR.purk
theorem eDs {gd : List D → Res D} (a : Ev fs ρ ql) : Ev (mDs gd fs) ρ (qds gd ql) := EvR.bnd a fun _ => EvR.purk
theorem eIsi {T : Ty} (a : Ev fa ρ qa) : Ev (mIsi T fa) ρ (qisi T qa) := EvR.bnd a fun _ => EvR.ok
theorem eIsiT {Ts : List Ty} (a : Ev fa ρ qa) : Ev (mIsiT Ts fa) ρ (qisiT Ts qa) := EvR.bnd a fun _ => EvR.ok
theorem eRng1 (a : Ev fa ρ qa) : Ev (mRng1 fa) ρ (qrng1 qa) := EvR.bnd a fun _ => EvR.purk
theorem eRng2 (a : Ev fa ρ qa) (b : Ev fb ρ q_b) : Ev (mRng2 fa fb) ρ (qrng2 qa q_b) := EvR.bnd a fun _ => EvR.bnd b fun _ => EvR.purk
theorem eLRg (a : Ev fs ρ ql) : Ev (mLRg fs) ρ (qlim ql) := EvR.bnd a fun xs => by
  show EvR (kLim (xs, ρ)) ρ _
  unfold kLim
  by_cases h : xs.length ≤ lim
  · simp only [h, if_true]; exact EvR.ok
  · simp only [h, if_false]; exact True.intro
theorem eTupL (a : Ev fs ρ ql) : Ev (mTupL fs) ρ (qtupL ql) := EvR.bnd a fun _ => EvR.ok
theorem eEnum (a : Ev fa ρ qa) : Ev (mEnum fa) ρ (qenum qa) := EvR.bnd a fun _ => EvR.pur fun _ => EvR.ok
theorem eZip (a : Ev fa ρ qa) (b : Ev fb ρ q_b) : Ev (mZip fa fb) ρ (qzip qa q_b) := EvR.bnd a fun _ => EvR.bnd b fun _ => EvR.pur fun _ => EvR.pur fun _ => EvR.ok
theorem eCmpO (h : ρ[i]? = some (some (Sl.ob b (.lst xs)))) (a : Ev fb ρ q_b) : Ev (mCmpO gb i fb) ρ (qcmpO gb xs q_b) := by
  show EvR (mCmpO gb i fb ρ) ρ _
  unfold mCmpO
  rw [ownAt_of h, pur_ok, bnd_ok]
  refine EvR.bnd a fun y => ?_
  dsimp only
  rw [ownAt_of h, pur_ok, bnd_ok]
  exact EvR.pur fun _ => EvR.ok
theorem eCmpR (a : Ev fa ρ qa) (h : ρ[i]? = some (some (Sl.ob b (.lst xs)))) : Ev (mCmpR gb fa i) ρ (qcmpR gb qa xs) := by
  refine EvR.bnd a fun x => ?_
  dsimp only
  rw [ownAt_of h, pur_ok, bnd_ok]
  exact EvR.pur fun _ => EvR.ok
theorem eCallG {α : Type} {m : List D → Res α} {x : Res (List D × DEnv)} (a : EvR x ρ ql) : EvR (DL.bnd x fun p => if p.1.length = n then DL.bnd (atR p.2 (m p.1)) fun d => .ok (d, p.2) else stuck) ρ (qcall n m ql) := EvR.bnd a fun xs => by
  by_cases h : xs.length = n
  · simp only [h, if_true]; exact EvR.call
  · simp only [h, if_false]; exact True.intro
theorem eCall {m : List D → Res D} (a : Ev fs ρ ql) : Ev (mCall n m fs) ρ (qcall n m ql) := eCallG a
theorem eCallL {m : List D → Res (List D)} (a : Ev fs ρ ql) : Ev (mCallL n m fs) ρ (qcall n m ql) := eCallG a
theorem eCallN {m : List D → Res OB} (a : Ev fs ρ ql) : Ev (mCallN n m fs) ρ (qcall n m ql) := eCallG a

/-! ## comprehensions -/
theorem wipeD_len : ∀ (ρ : DEnv) (vs : List Nat), (wipeD ρ vs).length = ρ.length
  | _, [] => rfl
  | ρ, v :: vs => by rw [wipeD, List.length_set, wipeD_len]
theorem wipeD_in' {ρ : DEnv} {j : Nat} : ∀ {vs : List Nat}, j ∈ vs → (wipeD ρ vs)[j]? = if j < ρ.length then some none else none
  | [], h => by cases h
  | v :: vs, h => by
    unfold wipeD
    by_cases e : v = j
    · subst e
      by_cases hl : v < ρ.length
      · rw [List.getElem?_set_self (by rw [wipeD_len]; exact hl), if_pos hl]
      · rw [if_neg hl, List.getElem?_eq_none (by rw [List.length_set, wipeD_len]; omega)]
    · rw [List.getElem?_set_ne e]
      rcases List.mem_cons.mp h with z | z
      · exact absurd z.symm e
      · exact wipeD_in' z
theorem wipeD_out {ρ : DEnv} {j : Nat} : ∀ {vs : List Nat}, j ∉ vs → (wipeD ρ vs)[j]? = ρ[j]?
  | [], _ => rfl
  | v :: vs, h => by
    unfold wipeD
    rw [List.getElem?_set_ne (fun e => h (by rw [e]; exact List.mem_cons_self))]
    exact wipeD_out fun z => h (List.mem_cons_of_mem _ z)
theorem restD_wipe (ρ : DEnv) (vs : List Nat) : restD (wipeD ρ vs) ρ vs = ρ := by
  refine List.ext_getElem? fun j => ?_
  by_cases h : j ∈ vs
  · exact rest_in (wipeD_len _ _) h
  · rw [rest_out h, wipeD_out h]
theorem setL_out {j : Nat} : ∀ {is : List Nat} {l : List D} {ρ : DEnv}, j ∉ is → (setL is l ρ)[j]? = ρ[j]?
  | [], _, _, _ => by simp [setL]
  | _ :: _, [], _, _ => by simp [setL]
  | i :: is, d :: l, ρ, h => by
    rw [setL, setL_out fun z => h (List.mem_cons_of_mem _ z), List.getElem?_set_ne (fun e => h (by rw [e]; exact List.mem_cons_self))]
theorem wipe_setL {ρ : DEnv} {is vs : List Nat} {l : List D} (h : ∀ i ∈ is, i ∈ vs) : wipeD (setL is l (wipeD ρ vs)) vs = wipeD ρ vs := by
  refine List.ext_getElem? fun j => ?_
  by_cases hj : j ∈ vs
  · rw [wipeD_in' hj, wipeD_in' hj, setL_len, wipeD_len]
  · rw [wipeD_out hj, setL_out fun z => hj (h j z)]
def subL (is vs : List Nat) : Bool := is.all fun i => vs.contains i
theorem subL_ok {is vs : List Nat} (h : subL is vs = true) : ∀ i ∈ is, i ∈ vs := fun i hi => by
  have := List.all_eq_true.mp h i hi
  simpa using this
theorem eComp {N : Nat} {fi : EvA} {gt : EvG} {tt e : EvF} {t : Tg} {is vs : List Nat} {qi : Res (List D)} {test elt : D → Res D} (hi : Ev fi ρ qi) (hN : ρ.length = N) (hg : TgOk N gt t is) (hs : subL is vs = true) (hno : noOwn ρ vs = true)
    (ht : ∀ d l, unp t d = .ok l → Ev tt (setL is l (wipeD ρ vs)) (test d)) (hu : ∀ d, (∀ l, unp t d ≠ .ok l) → test d = stuck) (he : ∀ d l, unp t d = .ok l → Ev e (setL is l (wipeD ρ vs)) (elt d)) : Ev (mComp fi vs gt tt e) ρ (qcomp test elt qi) := by
  refine EvR.bnd hi fun ds => ?_
  dsimp only
  by_cases hl : ds.length ≤ lim
  · rw [if_pos ⟨hl, hno⟩, if_pos hl]
    have key : ∀ ds : List D, (∀ zs, compQ test elt ds = .ok zs → compL gt tt e vs ds (wipeD ρ vs) = .ok (zs, wipeD ρ vs)) ∧ ∀ c fs r, compQ test elt ds ≠ .error (.exc c fs r) := by
      intro ds
      induction ds with
      | nil => exact ⟨fun zs h => by cases h; rfl, fun c fs r h => by cases h⟩
      | cons d ds ih =>
        obtain ⟨ih1, ih2⟩ := ih
        have hw := wipe_setL (ρ := ρ) (l := []) (subL_ok hs)
        cases hup : unp t d with
        | error er =>
          have hst := hu d (fun l z => by rw [hup] at z; cases z)
          constructor
          · intro zs h
            rw [compQ, hst] at h
            cases h
          · intro c fs r h
            rw [compQ, hst] at h
            cases h
        | ok l =>
          have h1 := ht d l hup
          have h2 := he d l hup
          have hgd := (hg.run d (wipeD ρ vs) l (by rw [wipeD_len]; exact hN) hup).2
          have hw := wipe_setL (ρ := ρ) (l := l) (subL_ok hs)
          rw [compQ]
          cases hb : test d with
          | error er => exact ⟨fun zs h => (by rw [pur_err] at h; cases h), fun c fs r h => (by rw [pur_err] at h; cases h)⟩
          | ok bd =>
            have e1 : tt (setL is l (wipeD ρ vs)) = .ok (bd, setL is l (wipeD ρ vs)) := by rw [hb] at h1; exact h1
            rw [pur_ok, bnd_ok]
            cases bd with
            | bool k =>
              cases k with
              | true =>
                show (∀ zs, bnd (pur (elt d)) _ = _ → _) ∧ ∀ c fs r, bnd (pur (elt d)) _ ≠ _
                cases hx : elt d with
                | error er => exact ⟨fun zs h => (by rw [pur_err] at h; cases h), fun c fs r h => (by rw [pur_err] at h; cases h)⟩
                | ok x =>
                  have e2 : e (setL is l (wipeD ρ vs)) = .ok (x, setL is l (wipeD ρ vs)) := by rw [hx] at h2; exact h2
                  rw [pur_ok, bnd_ok]
                  constructor
                  · intro zs h
                    obtain ⟨ys, h3, h⟩ := bnd_inv h
                    cases h
                    rw [compL, hgd, pur_ok, bnd_ok, e1, bnd_ok]
                    dsimp only
                    rw [e2, bnd_ok]
                    dsimp only
                    rw [hw, ih1 ys h3]
                    rfl
                  · intro c fs r h
                    cases h3 : compQ test elt ds with
                    | ok ys => rw [h3] at h; cases h
                    | error er => rw [h3] at h; exact ih2 c fs r (by rw [h3]; cases er with | stuck => cases h | exc a b c' => cases h; rfl)
              | false =>
                refine ⟨fun zs h => ?_, ih2⟩
                rw [compL, hgd, pur_ok, bnd_ok, e1, bnd_ok]
                dsimp only
                rw [hw]
                exact ih1 zs h
            | _ => exact ⟨fun zs h => (by cases h), fun c fs r h => (by cases h)⟩
    obtain ⟨k1, k2⟩ := key ds
    cases hq : compQ test elt ds with
    | ok zs =>
      rw [k1 zs hq, pur_ok, bnd_ok, restD_wipe]
      exact EvR.ok
    | error er =>
      cases er with
      | stuck => exact True.intro
      | exc c fs r => exact absurd hq (k2 c fs r)
  · rw [if_neg fun z => hl z.1, if_neg hl]
    exact True.intro
end
end L2.DL

namespace L2.DL
open PySem PySem.Spec PyProof.Rows

/-! ## statements, in plain sight -/
section
variable {α β S : Type}
/-- q speaks for x; I: how its value stands for the end and the slots -/
def Sim (x : Res (Ctl × DEnv)) (q : Res β) (I : β → Ctl → DEnv → Prop) : Prop := match q with
  | .ok b => ∃ c ρ, x = .ok (c, ρ) ∧ I b c ρ
  | .error .stuck => True
  | .error (.exc c fs _) => ∃ ρ, x = .error (.exc c fs ρ)
/-- a value, and what it has changed -/
def EvX (R : S → DEnv) (x : Res (α × DEnv)) (q : Res (α × S)) : Prop := match q with
  | .ok p => x = .ok (p.1, R p.2)
  | .error .stuck => True
  | .error (.exc c fs _) => ∃ ρ, x = .error (.exc c fs ρ)
variable {ρ : DEnv} {R : S → DEnv} {I : β → Ctl → DEnv → Prop}
theorem Sim.bnd {x : Res (α × DEnv)} {q : Res α} {F : α × DEnv → Res (Ctl × DEnv)} {k : α → Res β} (h : EvR x ρ q) (hk : ∀ a, Sim (F (a, ρ)) (k a) I) : Sim (DL.bnd x F) (DL.bnd q k) I := by
  cases q with
  | ok a => have e : x = .ok (a, ρ) := h; rw [e]; exact hk a
  | error e =>
    cases e with
    | stuck => exact True.intro
    | exc c fs r => have e : x = .error (.exc c fs ρ) := h; rw [e]; exact ⟨ρ, rfl⟩
theorem Sim.bndX {x : Res (α × DEnv)} {q : Res (α × S)} {F : α × DEnv → Res (Ctl × DEnv)} {k : α × S → Res β} (h : EvX R x q) (hk : ∀ a s, Sim (F (a, R s)) (k (a, s)) I) : Sim (DL.bnd x F) (DL.bnd q k) I := by
  cases q with
  | ok p => have e : x = .ok (p.1, R p.2) := h; rw [e]; exact hk p.1 p.2
  | error e =>
    cases e with
    | stuck => exact True.intro
    | exc c fs r => obtain ⟨ρ', e⟩ := h; rw [e]; exact ⟨ρ', rfl⟩
theorem Sim.pur {γ : Type} {t : Res γ} {F : γ → Res (Ctl × DEnv)} {k : γ → Res β} (hk : ∀ a, Sim (F a) (k a) I) : Sim (DL.bnd (DL.pur t) F) (DL.bnd (DL.pur t) k) I := by
  cases t with
  | ok a => exact hk a
  | error e => exact True.intro
theorem Sim.no {x : Res (Ctl × DEnv)} : Sim x (stuck : Res β) I := True.intro
theorem Sim.of {x : Res (Ctl × DEnv)} {c : Ctl} {b : β} (e : x = .ok (c, ρ)) (h : I b c ρ) : Sim x (.ok b) I := ⟨c, ρ, e, h⟩
/-- what was meant is read otherwise -/
theorem Sim.mapI {γ : Type} {I' : γ → Ctl → DEnv → Prop} {x : Res (Ctl × DEnv)} {q : Res β} {k : β → Res γ} {F : Ctl × DEnv → Res (Ctl × DEnv)} (h : Sim x q I) (hk : ∀ b c ρ, I b c ρ → Sim (F (c, ρ)) (k b) I') : Sim (DL.bnd x F) (DL.bnd q k) I' := by
  cases q with
  | ok b => obtain ⟨c, ρ, e, i⟩ := h; rw [e]; exact hk b c ρ i
  | error e =>
    cases e with
    | stuck => exact True.intro
    | exc c fs r => obtain ⟨ρ', e⟩ := h; rw [e]; exact ⟨ρ', rfl⟩
theorem blt_lt {i n : Nat} (h : Nat.blt i n = true) : i < n := Nat.le_of_ble_eq_true h

/-! ### what a turn of a loop gives -/
inductive Cn (S : Type) where
  | nx (s : S)
  | bk (s : S)
  | rt (d : D)
@[simp] def qCn (k : S → Res β) (r : D → Res β) : Cn S → Res β
  | .nx s => k s
  | .bk s => k s
  | .rt d => r d
def foldQ (step : S → D → Res S) : S → List D → Res S
  | s, [] => .ok s
  | s, d :: ds => DL.bnd (step s d) fun s' => foldQ step s' ds
def forQ (step : S → D → Res (Cn S)) : S → List D → Res (Cn S)
  | s, [] => .ok (.nx s)
  | s, d :: ds => DL.bnd (step s d) fun r => match r with
    | .nx s' => forQ step s' ds
    | .bk s' => .ok (.nx s')
    | .rt d => .ok (.rt d)
def whileN (c : S → Res D) (b : S → Res (Cn S)) : Nat → S → Res (Cn S)
  | 0, _ => stuck
  | n + 1, s => DL.bnd (c s) fun d => qsel d (DL.bnd (b s) fun r => match r with
    | .nx s' => whileN c b n s'
    | .bk s' => .ok (.nx s')
    | .rt d => .ok (.rt d)) (.ok (.nx s))
noncomputable def whileQ (c : S → Res D) (b : S → Res (Cn S)) (s : S) : Res (Cn S) := open Classical in if h : ∃ r n, whileN c b n s = r ∧ r ≠ stuck then h.choose else stuck
theorem whileN_more {c : S → Res D} {b : S → Res (Cn S)} : ∀ (n : Nat) {s : S} {r : Res (Cn S)}, whileN c b n s = r → r ≠ stuck → ∀ m, n ≤ m → whileN c b m s = r
  | 0, _, _, h, z, _, _ => absurd h.symm z
  | n + 1, s, r, h, z, 0, hm => by omega
  | n + 1, s, r, h, z, m + 1, hm => by
    rw [whileN] at h ⊢
    cases h1 : c s with
    | error e => rw [h1] at h; exact h
    | ok d =>
      rw [h1] at h
      cases d with
      | bool k =>
        cases k with
        | true =>
          simp only [bnd_ok, qsel] at h ⊢
          cases h2 : b s with
          | error e => rw [h2] at h; exact h
          | ok q =>
            rw [h2] at h
            cases q with
            | nx s' => exact whileN_more n h z m (by omega)
            | bk s' => exact h
            | rt d => exact h
        | false => exact h
      | _ => exact h
theorem whileQ_eq {c : S → Res D} {b : S → Res (Cn S)} {n : Nat} {s : S} {r : Res (Cn S)} (h : whileN c b n s = r) (z : r ≠ stuck) : whileQ c b s = r := by
  have hx : ∃ r n, whileN c b n s = r ∧ r ≠ stuck := ⟨r, n, h, z⟩
  unfold whileQ
  rw [dif_pos hx]
  obtain ⟨m, hm, z2⟩ := hx.choose_spec
  have a1 := whileN_more n h z (max n m) (Nat.le_max_left _ _)
  have a2 := whileN_more m hm z2 (max n m) (Nat.le_max_right _ _)
  rw [a1] at a2
  exact a2.symm
theorem whileQ_inv {c : S → Res D} {b : S → Res (Cn S)} {s : S} {r : Res (Cn S)} (h : whileQ c b s = r) (z : r ≠ stuck) : ∃ n, whileN c b n s = r := by
  unfold whileQ at h
  split at h
  · rename_i hx
    obtain ⟨m, hm, _⟩ := hx.choose_spec
    rw [h] at hm
    exact ⟨m, hm⟩
  · exact absurd h.symm z

/-! ### steps behind an expression that changes a list of the def's own -/
@[simp] def setX {α : Type} (q : Res (α × S)) (k : α → S → Res β) : Res β := DL.bnd q fun p => k p.1 p.2
@[simp] def asgX (t : Tg) (q : Res (D × S)) (k : S → List D → Res β) : Res β := DL.bnd q fun p => DL.bnd (DL.pur (unp t p.1)) (k p.2)
@[simp] def selX (q : Res (D × S)) (a b : S → Res β) : Res β := DL.bnd q fun p => qsel p.1 (a p.2) (b p.2)
@[simp] def par2X (q : Res (D × S)) (r : S → Res (D × S)) (k : D → D → S → Res β) : Res β := DL.bnd q fun p => DL.bnd (r p.2) fun z => k p.1 z.1 z.2
/-! ### the statements -/
variable {rest a b st s1 s2 : EvS} {k : D → Res β} {kl : List D → Res β} {ko : OB → Res β} {ks : S → Res β} {f fc : EvF} {fl : EvA} {fn : EvN} {q qc : Res D} {ql : Res (List D)} {qo : Res OB} {i : Nat} {w : β}
theorem sNx (h : I w .nx ρ) : Sim (mNx ρ) (.ok w) I := ⟨_, _, rfl, h⟩
theorem sNx' {q : Res β} (h : Sim (rest ρ) q I) : Sim (mSeq mNx rest ρ) q I := h
theorem sAss {q : Res β} (h : Sim (mSeq s1 (mSeq s2 rest) ρ) q I) : Sim (mSeq (mSeq s1 s2) rest ρ) q I := by
  have e : mSeq (mSeq s1 s2) rest ρ = mSeq s1 (mSeq s2 rest) ρ := by
    show bnd (bnd (s1 ρ) _) _ = bnd (s1 ρ) _
    cases s1 ρ with
    | error e => rfl
    | ok p =>
      obtain ⟨c, ρ1⟩ := p
      cases c <;> rfl
  rw [e]
  exact h
theorem sOne {q : Res β} (h : Sim (mSeq st mNx ρ) q I) : Sim (st ρ) q I := by
  have e : mSeq st mNx ρ = st ρ := by
    show bnd (st ρ) _ = st ρ
    cases st ρ with
    | error e => rfl
    | ok p =>
      obtain ⟨c, ρ1⟩ := p
      cases c <;> rfl
  rw [← e]
  exact h
theorem sKill {q : Res β} {is : List Nat} (h : Sim (mSeq st rest (wipeD ρ is)) q I) : Sim (mSeq (mKill is st) rest ρ) q I := h
theorem sFrz {q : Res β} {o : OB} {d : D} (h0 : ρ[i]? = some (some (Sl.ob false o))) (hd : o.dat = some d) (h : Sim (mSeq st rest (ρ.set i (some (Sl.dat d)))) q I) : Sim (mSeq (mFrz i st) rest ρ) q I := by
  show Sim (bnd (mFrz i st ρ) _) q I
  unfold mFrz
  rw [h0]
  dsimp only
  rw [hd]
  exact h
theorem sBk (h : I w .bk ρ) : Sim (mSeq mBk rest ρ) (.ok w) I := ⟨_, _, rfl, h⟩
theorem sCt (h : I w .ct ρ) : Sim (mSeq mCt rest ρ) (.ok w) I := ⟨_, _, rfl, h⟩
theorem sRetP {J : D → Ctl → DEnv → Prop} (h : Ev f ρ q) (hk : ∀ d, J d (.rt d) ρ) : Sim (mSeq (mRet f) rest ρ) q J := by
  cases q with
  | ok d => exact ⟨.rt d, ρ, by have e : f ρ = .ok (d, ρ) := h; simp [mSeq, mRet, e], hk d⟩
  | error e => cases e with
    | stuck => exact True.intro
    | exc c fs r => exact ⟨ρ, by have e : f ρ = .error (.exc c fs ρ) := h; simp [mSeq, mRet, e]⟩
theorem seq_ret : mSeq (mRet f) rest ρ = bnd (f ρ) fun p => .ok (.rt p.1, p.2) := by
  show bnd (bnd (f ρ) _) _ = _
  cases f ρ <;> rfl
theorem sRet {r : D → β} (h : Ev f ρ q) (hk : ∀ d, I (r d) (.rt d) ρ) : Sim (mSeq (mRet f) rest ρ) (bnd q fun d => .ok (r d)) I := by
  rw [seq_ret]
  exact Sim.bnd h fun d => ⟨_, _, rfl, hk d⟩
theorem sRetX {r : D → S → β} {q : Res (D × S)} (h : EvX R (f ρ) q) (hk : ∀ d s, I (r d s) (.rt d) (R s)) : Sim (mSeq (mRet f) rest ρ) (setX q fun d s => .ok (r d s)) I := by
  rw [seq_ret]
  exact Sim.bndX h fun d s => ⟨_, _, rfl, hk d s⟩
theorem sRetN {w : β} (hk : I w (.rt .none) ρ) : Sim (mSeq mRetN rest ρ) (.ok w) I := ⟨_, _, rfl, hk⟩
theorem seq_set : mSeq (mSet i f) rest ρ = bnd (f ρ) fun p => if i < p.2.length then rest (p.2.set i (some (Sl.dat p.1))) else stuck := by
  show bnd (bnd (f ρ) _) _ = _
  cases f ρ with
  | error e => rfl
  | ok p => by_cases h : i < p.2.length <;> simp [h]
theorem sSet (h : Ev f ρ q) (hk : ∀ d, Sim (rest (ρ.set i (some (Sl.dat d)))) (k d) I) (hi : Nat.blt i ρ.length = true := by rfl) : Sim (mSeq (mSet i f) rest ρ) (bnd q k) I := by
  rw [seq_set]
  refine Sim.bnd h fun d => ?_
  dsimp only
  rw [if_pos (blt_lt hi)]
  exact hk d
theorem sSetX {q : Res (D × S)} {k : D → S → Res β} (h : EvX R (f ρ) q) (hk : ∀ d s, Sim (rest ((R s).set i (some (Sl.dat d)))) (k d s) I) (hi : ∀ s, Nat.blt i (R s).length = true := by intro _; rfl) : Sim (mSeq (mSet i f) rest ρ) (setX q k) I := by
  rw [seq_set]
  refine Sim.bndX h fun d s => ?_
  dsimp only
  rw [if_pos (blt_lt (hi s))]
  exact hk d s
theorem seq_setOwn : mSeq (mSetOwn i fl) rest ρ = bnd (fl ρ) fun p => if i < p.2.length then rest (p.2.set i (some (Sl.own false p.1))) else stuck := by
  show bnd (bnd (fl ρ) _) _ = _
  cases fl ρ with
  | error e => rfl
  | ok p => by_cases h : i < p.2.length <;> simp [h]
theorem sSetOwn (h : Ev fl ρ ql) (hk : ∀ d, Sim (rest (ρ.set i (some (Sl.ob false (.lst d))))) (kl d) I) (hi : Nat.blt i ρ.length = true := by rfl) : Sim (mSeq (mSetOwn i fl) rest ρ) (bnd ql kl) I := by
  rw [seq_setOwn]
  refine Sim.bnd h fun d => ?_
  dsimp only
  rw [if_pos (blt_lt hi)]
  exact hk d
theorem sSetOwnX {q : Res (List D × S)} {k : List D → S → Res β} (h : EvX R (fl ρ) q) (hk : ∀ d s, Sim (rest ((R s).set i (some (Sl.ob false (.lst d))))) (k d s) I) (hi : ∀ s, Nat.blt i (R s).length = true := by intro _; rfl) : Sim (mSeq (mSetOwn i fl) rest ρ) (setX q k) I := by
  rw [seq_setOwn]
  refine Sim.bndX h fun d s => ?_
  dsimp only
  rw [if_pos (blt_lt (hi s))]
  exact hk d s
theorem sSetOb (h : Ev fn ρ qo) (hk : ∀ d, Sim (rest (ρ.set i (some (Sl.ob false d)))) (ko d) I) (hi : Nat.blt i ρ.length = true := by rfl) : Sim (mSeq (mSetOb i fn) rest ρ) (bnd qo ko) I := by
  have e : mSeq (mSetOb i fn) rest ρ = bnd (fn ρ) fun p => if i < p.2.length then rest (p.2.set i (some (Sl.ob false p.1))) else stuck := by
    show bnd (bnd (fn ρ) _) _ = _
    cases fn ρ with
    | error e => rfl
    | ok p => by_cases h : i < p.2.length <;> simp [h]
  rw [e]
  refine Sim.bnd h fun d => ?_
  dsimp only
  rw [if_pos (blt_lt hi)]
  exact hk d
theorem pur_unp {t : Tg} {d : D} : ∀ e, unp t d = .error e → pur (unp t d) = stuck := fun e h => by rw [h]; rfl
theorem seq_asg {g : EvG} : mSeq (mAsg f g) rest ρ = bnd (f ρ) fun p => bnd (pur (g p.1 p.2)) rest := by
  show bnd (bnd (f ρ) _) _ = _
  cases f ρ with
  | error e => rfl
  | ok p => cases h : g p.1 p.2 <;> simp [h]
theorem sim_tg {N : Nat} {g : EvG} {t : Tg} {is : List Nat} {d : D} {F : DEnv → Res (Ctl × DEnv)} (hg : TgOk N g t is) (hN : ρ.length = N) (hk : ∀ l, Sim (F (setL is l ρ)) (kl l) I) : Sim (bnd (pur (g d ρ)) F) (bnd (pur (unp t d)) kl) I := by
  cases h : unp t d with
  | error e => exact True.intro
  | ok l =>
    rw [(hg.run d ρ l hN h).2]
    exact hk l
theorem sAsg {N : Nat} {g : EvG} {t : Tg} {is : List Nat} (h : Ev f ρ q) (hg : TgOk N g t is) (hk : ∀ l, Sim (rest (setL is l ρ)) (kl l) I) (hN : ρ.length = N := by rfl) : Sim (mSeq (mAsg f g) rest ρ) (bnd q fun d => bnd (pur (unp t d)) kl) I := by
  rw [seq_asg]
  exact Sim.bnd h fun d => sim_tg hg hN hk
theorem sAsgX {N : Nat} {g : EvG} {t : Tg} {is : List Nat} {q : Res (D × S)} {kl : S → List D → Res β} (h : EvX R (f ρ) q) (hg : TgOk N g t is) (hk : ∀ s l, Sim (rest (setL is l (R s))) (kl s l) I) (hN : ∀ s, (R s).length = N := by intro _; rfl) : Sim (mSeq (mAsg f g) rest ρ) (asgX t q kl) I := by
  rw [seq_asg]
  exact Sim.bndX h fun d s => sim_tg hg (hN s) (hk s)
theorem sAug {g : D → D → Res D} {d : D} (h0 : ρ[i]? = some (some (Sl.dat d))) (h : Ev f ρ q) (hk : ∀ d, Sim (rest (ρ.set i (some (Sl.dat d)))) (k d) I) (hi : Nat.blt i ρ.length = true := by rfl) : Sim (mSeq (mAug i g f) rest ρ) (bnd (q2 g (.ok d) q) k) I := by
  have e : mSeq (mAug i g f) rest ρ = bnd (f ρ) fun p => bnd (pur (g d p.1)) fun z => if i < p.2.length then rest (p.2.set i (some (Sl.dat z))) else stuck := by
    have e0 : mVar i ρ = .ok (d, ρ) := eV h0
    show bnd (mAug i g f ρ) _ = _
    unfold mAug
    rw [e0, pur_ok, bnd_ok]
    cases f ρ with
    | error e => rfl
    | ok p => cases hz : g d p.1 with
      | error e => simp [hz]
      | ok z => by_cases h : i < p.2.length <;> simp [hz, h]
  have e2 : bnd (q2 g (.ok d) q) k = bnd q fun x => bnd (pur (g d x)) k := by
    show bnd (bnd q _) k = _
    cases q <;> rfl
  rw [e, e2]
  refine Sim.bnd h fun x => Sim.pur fun z => ?_
  dsimp only
  rw [if_pos (blt_lt hi)]
  exact hk z
theorem seq_app : mSeq (mApp i f) rest ρ = bnd (pur (ownAt2 i ρ)) fun _ => bnd (f ρ) fun q => bnd (pur (ownAt2 i q.2)) fun p => if p.2.length < lim then rest (q.2.set i (some (Sl.own p.1 (p.2 ++ [q.1])))) else stuck := by
  show bnd (mApp i f ρ) _ = _
  unfold mApp
  cases h1 : ownAt2 i ρ with
  | error e => rfl
  | ok z =>
    simp only [pur_ok, bnd_ok]
    cases f ρ with
    | error e => rfl
    | ok q => cases h2 : ownAt2 i q.2 with
      | error e => simp [h2]
      | ok p => by_cases h : p.2.length < lim <;> simp [h2, h]
@[simp] def appQ (xs : List D) (d : D) : Res (List D) := if xs.length < lim then .ok (xs ++ [d]) else stuck
@[simp] def extQ (xs ys : List D) : Res (List D) := if xs.length + ys.length ≤ lim then .ok (xs ++ ys) else stuck
@[simp] def appX (get : S → List D) (q : Res (D × S)) (k : S → List D → Res β) : Res β := DL.bnd q fun p => DL.bnd (appQ (get p.2) p.1) (k p.2)
@[simp] def extX (get : S → List D) (q : Res (List D × S)) (k : S → List D → Res β) : Res β := DL.bnd q fun p => DL.bnd (extQ (get p.2) p.1) (k p.2)
theorem sApp {bb : Bool} {xs : List D} (h0 : ρ[i]? = some (some (Sl.ob bb (.lst xs)))) (h : Ev f ρ q) (hk : ∀ l, Sim (rest (ρ.set i (some (Sl.ob bb (.lst l))))) (kl l) I) : Sim (mSeq (mApp i f) rest ρ) (bnd q fun d => bnd (appQ xs d) kl) I := by
  rw [seq_app, ownAt2_of h0, pur_ok, bnd_ok]
  refine Sim.bnd h fun d => ?_
  dsimp only
  rw [ownAt2_of h0, pur_ok, bnd_ok]
  unfold appQ
  dsimp only
  by_cases hl : xs.length < lim
  · rw [if_pos hl, if_pos hl, bnd_ok]; exact hk _
  · rw [if_neg hl, if_neg hl]; exact True.intro
theorem sAppX {bb : Bool} {q : Res (D × S)} {get : S → List D} {kl : S → List D → Res β} {xs : List D} (h00 : ρ[i]? = some (some (Sl.ob bb (.lst xs)))) (h0 : ∀ s, (R s)[i]? = some (some (Sl.ob bb (.lst (get s))))) (h : EvX R (f ρ) q) (hk : ∀ s l, Sim (rest ((R s).set i (some (Sl.ob bb (.lst l))))) (kl s l) I) :
    Sim (mSeq (mApp i f) rest ρ) (appX get q kl) I := by
  rw [seq_app, ownAt2_of h00, pur_ok, bnd_ok]
  refine Sim.bndX h fun d s => ?_
  dsimp only
  rw [ownAt2_of (h0 s), pur_ok, bnd_ok]
  unfold appQ
  dsimp only
  by_cases hl : (get s).length < lim
  · rw [if_pos hl, if_pos hl, bnd_ok]; exact hk _ _
  · rw [if_neg hl, if_neg hl]; exact True.intro
theorem seq_ext : mSeq (mExt i fl) rest ρ = bnd (pur (ownAt2 i ρ)) fun _ => bnd (fl ρ) fun q => bnd (pur (ownAt2 i q.2)) fun p => if p.2.length + q.1.length ≤ lim then rest (q.2.set i (some (Sl.own p.1 (p.2 ++ q.1)))) else stuck := by
  show bnd (mExt i fl ρ) _ = _
  unfold mExt
  cases h1 : ownAt2 i ρ with
  | error e => rfl
  | ok z =>
    simp only [pur_ok, bnd_ok]
    cases fl ρ with
    | error e => rfl
    | ok q => cases h2 : ownAt2 i q.2 with
      | error e => simp [h2]
      | ok p => by_cases h : p.2.length + q.1.length ≤ lim <;> simp [h2, h]
theorem sExt {bb : Bool} {xs : List D} (h0 : ρ[i]? = some (some (Sl.ob bb (.lst xs)))) (h : Ev fl ρ ql) (hk : ∀ l, Sim (rest (ρ.set i (some (Sl.ob bb (.lst l))))) (kl l) I) : Sim (mSeq (mExt i fl) rest ρ) (bnd ql fun ys => bnd (extQ xs ys) kl) I := by
  rw [seq_ext, ownAt2_of h0, pur_ok, bnd_ok]
  refine Sim.bnd h fun d => ?_
  dsimp only
  rw [ownAt2_of h0, pur_ok, bnd_ok]
  unfold extQ
  dsimp only
  by_cases hl : xs.length + d.length ≤ lim
  · rw [if_pos hl, if_pos hl, bnd_ok]; exact hk _
  · rw [if_neg hl, if_neg hl]; exact True.intro
theorem sExtX {bb : Bool} {q : Res (List D × S)} {get : S → List D} {kl : S → List D → Res β} {xs : List D} (h00 : ρ[i]? = some (some (Sl.ob bb (.lst xs)))) (h0 : ∀ s, (R s)[i]? = some (some (Sl.ob bb (.lst (get s))))) (h : EvX R (fl ρ) q) (hk : ∀ s l, Sim (rest ((R s).set i (some (Sl.ob bb (.lst l))))) (kl s l) I) :
    Sim (mSeq (mExt i fl) rest ρ) (extX get q kl) I := by
  rw [seq_ext, ownAt2_of h00, pur_ok, bnd_ok]
  refine Sim.bndX h fun d s => ?_
  dsimp only
  rw [ownAt2_of (h0 s), pur_ok, bnd_ok]
  unfold extQ
  dsimp only
  by_cases hl : (get s).length + d.length ≤ lim
  · rw [if_pos hl, if_pos hl, bnd_ok]; exact hk _ _
  · rw [if_neg hl, if_neg hl]; exact True.intro
@[simp] def stoQ (xs : List D) (v y : D) : Res (List D) := match y with
  | .int k => match ixN xs.length k with
    | some j => .ok (xs.set j v)
    | none => stuck
  | _ => stuck
theorem sStore {bb : Bool} {xs : List D} {fi : EvF} {qi : Res D} (h0 : ρ[i]? = some (some (Sl.ob bb (.lst xs)))) (h : Ev f ρ q) (h2 : Ev fi ρ qi) (hk : ∀ l, Sim (rest (ρ.set i (some (Sl.ob bb (.lst l))))) (kl l) I) :
    Sim (mSeq (mStore i f fi) rest ρ) (bnd q fun v => bnd qi fun y => bnd (stoQ xs v y) kl) I := by
  have e : mSeq (mStore i f fi) rest ρ = bnd (f ρ) fun v => bnd (pur (ownAt2 i v.2)) fun _ => bnd (fi v.2) fun q => bnd (pur (ownAt2 i q.2)) fun p => match q.1 with
      | .int k => match ixN p.2.length k with
        | some j => rest (q.2.set i (some (Sl.own p.1 (p.2.set j v.1))))
        | none => stuck
      | _ => stuck := by
    show bnd (mStore i f fi ρ) _ = _
    unfold mStore
    cases f ρ with
    | error e => rfl
    | ok v => cases h1 : ownAt2 i v.2 with
      | error e => simp [h1]
      | ok z => cases h3 : fi v.2 with
        | error e => simp [h1, h3]
        | ok q => cases h4 : ownAt2 i q.2 with
          | error e => simp [h1, h3, h4]
          | ok p =>
            simp only [h1, h3, h4, pur_ok, bnd_ok]
            cases q.1 with
            | int k => cases h5 : ixN p.2.length k <;> simp [h5]
            | _ => rfl
  rw [e]
  refine Sim.bnd h fun v => ?_
  dsimp only
  rw [ownAt2_of h0, pur_ok, bnd_ok]
  refine Sim.bnd h2 fun y => ?_
  dsimp only
  rw [ownAt2_of h0, pur_ok, bnd_ok]
  cases y with
  | int k =>
    unfold stoQ
    dsimp only
    cases h5 : ixN xs.length k with
    | none => exact True.intro
    | some j => exact hk _
  | _ => exact True.intro
@[simp] def oldQ (xs : List D) (y : D) : Res D := match y with
  | .int k => match atI xs k with
    | some o => .ok o
    | none => stuck
  | _ => stuck
theorem sAugS {g : D → D → Res D} {bb : Bool} {xs : List D} {fi : EvF} {qi : Res D} (h0 : ρ[i]? = some (some (Sl.ob bb (.lst xs)))) (h2 : Ev fi ρ qi) (h : Ev f ρ q) (hk : ∀ l, Sim (rest (ρ.set i (some (Sl.ob bb (.lst l))))) (kl l) I) :
    Sim (mSeq (mAugS i g fi f) rest ρ) (bnd qi fun y => bnd (oldQ xs y) fun o => bnd q fun v => bnd (pur (g o v)) fun z => bnd (stoQ xs z y) kl) I := by
  have e : mSeq (mAugS i g fi f) rest ρ = bnd (pur (ownAt2 i ρ)) fun _ => bnd (fi ρ) fun q => bnd (pur (ownAt2 i q.2)) fun p => bnd (oldQ p.2 q.1) fun old => bnd (f q.2) fun r => bnd (pur (ownAt2 i r.2)) fun p2 => bnd (pur (match q.1 with | .int k => (match ixN p2.2.length k with | some j => .ok j | none => stuck) | _ => stuck)) fun j => bnd (pur (g old r.1)) fun z => rest (r.2.set i (some (Sl.own p2.1 (p2.2.set j z)))) := by
    show bnd (mAugS i g fi f ρ) _ = _
    unfold mAugS
    cases ownAt2 i ρ with
    | error e => rfl
    | ok z0 =>
      simp only [pur_ok, bnd_ok]
      cases fi ρ with
      | error e => rfl
      | ok q =>
        simp only [bnd_ok]
        cases ownAt2 i q.2 with
        | error e => rfl
        | ok p =>
          simp only [pur_ok, bnd_ok]
          cases q.1 with
          | int k =>
            unfold oldQ
            dsimp only
            cases atI p.2 k with
            | none => rfl
            | some old =>
              simp only [bnd_ok]
              cases f q.2 with
              | error e => rfl
              | ok r =>
                simp only [bnd_ok]
                cases ownAt2 i r.2 with
                | error e => rfl
                | ok p2 =>
                  simp only [pur_ok, bnd_ok]
                  cases ixN p2.2.length k with
                  | none => rfl
                  | some j => cases hz : g old r.1 <;> simp [hz]
          | _ => rfl
  rw [e, ownAt2_of h0, pur_ok, bnd_ok]
  refine Sim.bnd h2 fun y => ?_
  dsimp only
  rw [ownAt2_of h0, pur_ok, bnd_ok]
  dsimp only
  cases y with
  | int k =>
    unfold oldQ
    dsimp only
    cases atI xs k with
    | none => exact True.intro
    | some old =>
      simp only [bnd_ok]
      refine Sim.bnd h fun v => ?_
      dsimp only
      rw [ownAt2_of h0, pur_ok, bnd_ok]
      cases hz : g old v with
      | error e => exact True.intro
      | ok z =>
        unfold stoQ
        dsimp only
        cases h5 : ixN xs.length k with
        | none => exact True.intro
        | some j => simp only [pur_ok, bnd_ok]; exact hk _
  | _ => exact True.intro
theorem sim_sel {x y : Res (Ctl × DEnv)} {p r : Res β} (d : D) (ha : Sim x p I) (hb : Sim y r I) : Sim (match d with | .bool true => x | .bool false => y | _ => stuck) (qsel d p r) I := by
  cases d with
  | bool k => cases k <;> assumption
  | _ => exact True.intro
theorem seq_if : mSeq (mIfS fc a b) rest ρ = bnd (fc ρ) fun p => match p.1 with | .bool true => mSeq a rest p.2 | .bool false => mSeq b rest p.2 | _ => stuck := by
  show bnd (bnd (fc ρ) _) _ = _
  cases fc ρ with
  | error e => rfl
  | ok p =>
    obtain ⟨d, ρ1⟩ := p
    cases d with
    | bool k => cases k <;> rfl
    | _ => rfl
theorem sIf {qa q_b : Res β} (h : Ev fc ρ qc) (ha : Sim (mSeq a rest ρ) qa I) (hb : Sim (mSeq b rest ρ) q_b I) : Sim (mSeq (mIfS fc a b) rest ρ) (qifs qc qa q_b) I := by
  rw [seq_if]
  exact Sim.bnd h fun d => sim_sel d ha hb
theorem sIfX {q : Res (D × S)} {qa q_b : S → Res β} (h : EvX R (fc ρ) q) (ha : ∀ s, Sim (mSeq a rest (R s)) (qa s) I) (hb : ∀ s, Sim (mSeq b rest (R s)) (q_b s) I) : Sim (mSeq (mIfS fc a b) rest ρ) (selX q qa q_b) I := by
  rw [seq_if]
  exact Sim.bndX h fun d s => sim_sel d (ha s) (hb s)
/-- two ways meet again -/
theorem sJoin {q : Res S} (h : Sim (mSeq st mNx ρ) q fun s c ρ' => c = .nx ∧ ρ' = R s) (hk : ∀ s, Sim (rest (R s)) (ks s) I) : Sim (mSeq st rest ρ) (bnd q ks) I := by
  have e : mSeq st rest ρ = bnd (mSeq st mNx ρ) fun p => match p.1 with | .nx => rest p.2 | c => .ok (c, p.2) := by
    show bnd (st ρ) _ = bnd (bnd (st ρ) _) _
    cases st ρ with
    | error e => rfl
    | ok p =>
      obtain ⟨c, ρ1⟩ := p
      cases c <;> rfl
  rw [e]
  refine h.mapI fun s c ρ' ⟨e1, e2⟩ => ?_
  subst e1 e2
  exact hk s
/-! ### for -/
theorem seq_for {fi : EvA} {g : EvG} : mSeq (mFor fi g b) rest ρ = bnd (fi ρ) fun p => bnd (forL g b p.1 p.2) fun p => match p.1 with | .nx => rest p.2 | c => .ok (c, p.2) := by
  show bnd (bnd (fi ρ) _) _ = _
  cases fi ρ <;> rfl
theorem sFor {fi : EvA} {g : EvG} {N : Nat} {t : Tg} {is : List Nat} {kb : S → List D → Res S} {s0 : S} (hi : Ev fi ρ ql) (h0 : ρ = R s0) (hg : TgOk N g t is) (hb : ∀ s l, Sim (b (setL is l (R s))) (kb s l) fun s' c ρ' => (c = .nx ∨ c = .ct) ∧ ρ' = R s')
    (hk : ∀ s, Sim (rest (R s)) (ks s) I) (hN : ∀ s, (R s).length = N := by intro _; rfl) : Sim (mSeq (mFor fi g b) rest ρ) (bnd ql fun ds => bnd (foldQ (fun s d => bnd (pur (unp t d)) (kb s)) s0 ds) ks) I := by
  rw [seq_for]
  refine Sim.bnd hi fun ds => ?_
  dsimp only
  rw [h0]
  have key : ∀ (ds : List D) (s : S), Sim (bnd (forL g b ds (R s)) fun p => match p.1 with | .nx => rest p.2 | c => .ok (c, p.2)) (bnd (foldQ (fun s d => bnd (pur (unp t d)) (kb s)) s ds) ks) I := by
    intro ds
    induction ds with
    | nil => exact fun s => hk s
    | cons d ds ih =>
      intro s
      rw [forL, foldQ]
      cases hu : unp t d with
      | error e => exact True.intro
      | ok l =>
        rw [(hg.run d (R s) l (hN s) hu).2, pur_ok, pur_ok, bnd_ok, bnd_ok]
        have q := hb s l
        cases hk2 : kb s l with
        | error e => cases e with
          | stuck => exact True.intro
          | exc c fs r => rw [hk2] at q; obtain ⟨ρ', e⟩ := q; rw [e]; exact ⟨ρ', rfl⟩
        | ok s' =>
          rw [hk2] at q
          obtain ⟨c, ρ', e, hc, e2⟩ := q
          subst e2
          rw [e, bnd_ok]
          rcases hc with hc | hc <;> subst hc <;> exact ih s'
  exact key ds s0
theorem sFor1 {fi : EvA} {j N : Nat} {kb : S → D → Res S} {s0 : S} (hi : Ev fi ρ ql) (h0 : ρ = R s0) (hb : ∀ s d, Sim (b ((R s).set j (some (Sl.dat d)))) (kb s d) fun s' c ρ' => (c = .nx ∨ c = .ct) ∧ ρ' = R s')
    (hk : ∀ s, Sim (rest (R s)) (ks s) I) (hN : ∀ s, (R s).length = N := by intro _; rfl) (hj : Nat.blt j N = true := by rfl) : Sim (mSeq (mFor fi (gN j) b) rest ρ) (bnd ql fun ds => bnd (foldQ kb s0 ds) ks) I := by
  have q := sFor (kb := fun s l => match l with | [d] => kb s d | _ => stuck) hi h0 (tg_n (N := N) hj) (fun s l => by
    match l with
    | [] => exact True.intro
    | [d] => exact hb s d
    | _ :: _ :: _ => exact True.intro) hk hN
  exact q
def Cnv (R : S → DEnv) : Cn S → Ctl → DEnv → Prop
  | .nx s, c, ρ' => (c = .nx ∨ c = .ct) ∧ ρ' = R s
  | .bk s, c, ρ' => c = .bk ∧ ρ' = R s
  | .rt d, c, _ => c = .rt d
theorem sForC {fi : EvA} {g : EvG} {N : Nat} {t : Tg} {is : List Nat} {kb : S → List D → Res (Cn S)} {s0 : S} {kr : D → Res β} (hi : Ev fi ρ ql) (h0 : ρ = R s0) (hg : TgOk N g t is) (hb : ∀ s l, Sim (b (setL is l (R s))) (kb s l) (Cnv R))
    (hk : ∀ s, Sim (rest (R s)) (ks s) I) (hr : ∀ d ρ', Sim (.ok (.rt d, ρ')) (kr d) I) (hN : ∀ s, (R s).length = N := by intro _; rfl) : Sim (mSeq (mFor fi g b) rest ρ) (bnd ql fun ds => bnd (forQ (fun s d => bnd (pur (unp t d)) (kb s)) s0 ds) (qCn ks kr)) I := by
  rw [seq_for]
  refine Sim.bnd hi fun ds => ?_
  dsimp only
  rw [h0]
  have key : ∀ (ds : List D) (s : S), Sim (bnd (forL g b ds (R s)) fun p => match p.1 with | .nx => rest p.2 | c => .ok (c, p.2)) (bnd (forQ (fun s d => bnd (pur (unp t d)) (kb s)) s ds) (qCn ks kr)) I := by
    intro ds
    induction ds with
    | nil => exact fun s => hk s
    | cons d ds ih =>
      intro s
      rw [forL, forQ]
      cases hu : unp t d with
      | error e => exact True.intro
      | ok l =>
        rw [(hg.run d (R s) l (hN s) hu).2, pur_ok, pur_ok, bnd_ok, bnd_ok]
        have q := hb s l
        cases hk2 : kb s l with
        | error e => cases e with
          | stuck => exact True.intro
          | exc c fs r => rw [hk2] at q; obtain ⟨ρ', e⟩ := q; rw [e]; exact ⟨ρ', rfl⟩
        | ok r =>
          rw [hk2] at q
          cases r with
          | nx s' =>
            obtain ⟨c, ρ', e, hc, e2⟩ := q
            subst e2
            rw [e, bnd_ok]
            rcases hc with hc | hc <;> subst hc <;> exact ih s'
          | bk s' =>
            obtain ⟨c, ρ', e, hc, e2⟩ := q
            subst e2 hc
            rw [e, bnd_ok]
            exact hk s'
          | rt d =>
            obtain ⟨c, ρ', e, hc⟩ := q
            subst hc
            rw [e, bnd_ok]
            exact hr d ρ'
  exact key ds s0
theorem sForC1 {fi : EvA} {j N : Nat} {kb : S → D → Res (Cn S)} {s0 : S} {kr : D → Res β} (hi : Ev fi ρ ql) (h0 : ρ = R s0) (hb : ∀ s d, Sim (b ((R s).set j (some (Sl.dat d)))) (kb s d) (Cnv R))
    (hk : ∀ s, Sim (rest (R s)) (ks s) I) (hr : ∀ d ρ', Sim (.ok (.rt d, ρ')) (kr d) I) (hN : ∀ s, (R s).length = N := by intro _; rfl) (hj : Nat.blt j N = true := by rfl) : Sim (mSeq (mFor fi (gN j) b) rest ρ) (bnd ql fun ds => bnd (forQ kb s0 ds) (qCn ks kr)) I := by
  have q := sForC (kb := fun s l => match l with | [d] => kb s d | _ => stuck) hi h0 (tg_n (N := N) hj) (fun s l => by
    match l with
    | [] => exact True.intro
    | [d] => exact hb s d
    | _ :: _ :: _ => exact True.intro) hk hr hN
  exact q
/-! ### while -/
theorem sWhile {kb : S → Res (Cn S)} {kc : S → Res D} {s0 : S} {kr : D → Res β} (h0 : ρ = R s0) (hc : ∀ s, Ev fc (R s) (kc s)) (hb : ∀ s, Sim (b (R s)) (kb s) (Cnv R))
    (hk : ∀ s, Sim (rest (R s)) (ks s) I) (hr : ∀ d ρ', Sim (.ok (.rt d, ρ')) (kr d) I) : Sim (mSeq (mWhile fc b) rest ρ) (bnd (whileQ kc kb s0) (qCn ks kr)) I := by
  rw [h0]
  by_cases hst : whileQ kc kb s0 = stuck
  · rw [hst]; exact True.intro
  · obtain ⟨n, hn⟩ := whileQ_inv rfl hst
    have key : ∀ (n : Nat) (s : S), whileN kc kb n s ≠ stuck → ∃ r, whileL fc b n (R s) = r ∧ (match whileN kc kb n s with
        | .ok (.nx s') => r = .ok (.nx, R s')
        | .ok (.bk _) => False
        | .ok (.rt d) => ∃ ρ', r = .ok (.rt d, ρ')
        | .error (.exc c fs _) => ∃ ρ', r = .error (.exc c fs ρ')
        | .error .stuck => True) := by
      intro n
      induction n with
      | zero => exact fun s h => absurd rfl h
      | succ n ih =>
        intro s hns
        refine ⟨_, rfl, ?_⟩
        rw [whileN] at hns ⊢
        rw [whileL]
        have q := hc s
        cases hkc : kc s with
        | error e => cases e with
          | stuck => exact True.intro
          | exc c fs r => rw [hkc] at q; have e : fc (R s) = .error (.exc c fs (R s)) := q; rw [e]; exact ⟨R s, rfl⟩
        | ok d =>
          rw [hkc] at q hns
          have e : fc (R s) = .ok (d, R s) := q
          rw [e]
          cases d with
          | bool k =>
            cases k with
            | false => exact rfl
            | true =>
              simp only [bnd_ok, qsel] at hns ⊢
              have q2 := hb s
              cases hkb : kb s with
              | error e => cases e with
                | stuck => exact True.intro
                | exc c fs r => rw [hkb] at q2; obtain ⟨ρ', e⟩ := q2; rw [e]; exact ⟨ρ', rfl⟩
              | ok r =>
                rw [hkb] at q2 hns
                cases r with
                | nx s' =>
                  obtain ⟨c, ρ', e, hc', e2⟩ := q2
                  subst e2
                  rw [e]
                  obtain ⟨r, h1, h2⟩ := ih s' hns
                  subst h1
                  rcases hc' with hc' | hc' <;> subst hc' <;> exact h2
                | bk s' =>
                  obtain ⟨c, ρ', e, hc', e2⟩ := q2
                  subst e2 hc'
                  rw [e]
                  exact rfl
                | rt d =>
                  obtain ⟨c, ρ', e, hc'⟩ := q2
                  subst hc'
                  rw [e]
                  exact ⟨ρ', rfl⟩
          | _ => exact True.intro
    have hst' : whileN kc kb n s0 ≠ stuck := by rw [hn]; exact hst
    obtain ⟨r, h1, h2⟩ := key n s0 hst'
    rw [hn] at h2
    have fin : ∀ r', r' ≠ stuck → r = r' → mWhile fc b (R s0) = r' := fun r' z e => mWhile_eqE (h1.trans e) z
    show Sim (bnd (mWhile fc b (R s0)) _) _ I
    cases hq : whileQ kc kb s0 with
    | error e => cases e with
      | stuck => exact True.intro
      | exc c fs r2 =>
        rw [hq] at h2
        obtain ⟨ρ', e⟩ := h2
        rw [fin _ (by intro z; cases z) e]
        exact ⟨ρ', rfl⟩
    | ok r2 =>
      rw [hq] at h2
      cases r2 with
      | nx s' =>
        rw [fin _ (by intro z; cases z) h2]
        exact hk s'
      | bk s' => exact h2.elim
      | rt d =>
        obtain ⟨ρ', e⟩ := h2
        rw [fin _ (by intro z; cases z) e]
        exact hr d ρ'
end

/-! ## at once -/
section
variable {β S : Type} {I : β → Ctl → DEnv → Prop} {ρ : DEnv} {rest : EvS}
theorem seq_par {is : List Nat} {ks : List Ek} : mSeq (mPar is ks) rest ρ = bnd (mKs ks ρ) fun p => if is.length = p.1.length ∧ ∀ i ∈ is, i < p.2.length then rest (setAll is p.1 p.2) else stuck := by
  show bnd (bnd (mKs ks ρ) _) _ = _
  cases mKs ks ρ with
  | error e => rfl
  | ok p =>
    by_cases h : is.length = p.1.length ∧ ∀ i ∈ is, i < p.2.length
    · rw [bnd_ok, bnd_ok, if_pos h, if_pos h]; rfl
    · rw [bnd_ok, bnd_ok, if_neg h, if_neg h]; rfl
theorem seq_mKs {k1 : Ek} {ks : List Ek} {F : List Sl × DEnv → Res (Ctl × DEnv)} : bnd (mKs (k1 :: ks) ρ) F = bnd (mK k1 ρ) fun p => bnd (mKs ks p.2) fun q => F (p.1 :: q.1, q.2) := by
  show bnd (bnd (mK k1 ρ) _) F = _
  cases mK k1 ρ with
  | error e => rfl
  | ok p => cases h : mKs ks p.2 <;> simp [h]
def bltAll (is : List Nat) (n : Nat) : Bool := is.all fun i => Nat.blt i n
theorem bltAll_ok {is : List Nat} {n : Nat} (h : bltAll is n = true) : ∀ i ∈ is, i < n := fun i hi => blt_lt (List.all_eq_true.mp h i hi)
@[simp] def m1 {α : Type} (k : D → Res α) : List D → Res α
  | [x0] => k x0
  | _ => stuck
@[simp] def m2 {α : Type} (k : D → D → Res α) : List D → Res α
  | [x0, x1] => k x0 x1
  | _ => stuck
@[simp] def m3 {α : Type} (k : D → D → D → Res α) : List D → Res α
  | [x0, x1, x2] => k x0 x1 x2
  | _ => stuck
@[simp] def m4 {α : Type} (k : D → D → D → D → Res α) : List D → Res α
  | [x0, x1, x2, x3] => k x0 x1 x2 x3
  | _ => stuck
@[simp] def m5 {α : Type} (k : D → D → D → D → D → Res α) : List D → Res α
  | [x0, x1, x2, x3, x4] => k x0 x1 x2 x3 x4
  | _ => stuck
@[simp] def m6 {α : Type} (k : D → D → D → D → D → D → Res α) : List D → Res α
  | [x0, x1, x2, x3, x4, x5] => k x0 x1 x2 x3 x4 x5
  | _ => stuck
@[simp] def m7 {α : Type} (k : D → D → D → D → D → D → D → Res α) : List D → Res α
  | [x0, x1, x2, x3, x4, x5, x6] => k x0 x1 x2 x3 x4 x5 x6
  | _ => stuck
@[simp] def m8 {α : Type} (k : D → D → D → D → D → D → D → D → Res α) : List D → Res α
  | [x0, x1, x2, x3, x4, x5, x6, x7] => k x0 x1 x2 x3 x4 x5 x6 x7
  | _ => stuck
@[simp] def m9 {α : Type} (k : D → D → D → D → D → D → D → D → D → Res α) : List D → Res α
  | [x0, x1, x2, x3, x4, x5, x6, x7, x8] => k x0 x1 x2 x3 x4 x5 x6 x7 x8
  | _ => stuck
@[simp] def m10 {α : Type} (k : D → D → D → D → D → D → D → D → D → D → Res α) : List D → Res α
  | [x0, x1, x2, x3, x4, x5, x6, x7, x8, x9] => k x0 x1 x2 x3 x4 x5 x6 x7 x8 x9
  | _ => stuck
@[simp] def m11 {α : Type} (k : D → D → D → D → D → D → D → D → D → D → D → Res α) : List D → Res α
  | [x0, x1, x2, x3, x4, x5, x6, x7, x8, x9, x10] => k x0 x1 x2 x3 x4 x5 x6 x7 x8 x9 x10
  | _ => stuck
@[simp] def m12 {α : Type} (k : D → D → D → D → D → D → D → D → D → D → D → D → Res α) : List D → Res α
  | [x0, x1, x2, x3, x4, x5, x6, x7, x8, x9, x10, x11] => k x0 x1 x2 x3 x4 x5 x6 x7 x8 x9 x10 x11
  | _ => stuck
theorem sPar_dd {i0 i1 : Nat} {f0 : EvF} {f1 : EvF} {q0 : Res (D)} {q1 : Res (D)} {k : D → D → Res β} (h0 : Ev f0 ρ q0) (h1 : Ev f1 ρ q1) (hk : ∀ x0 x1, Sim (rest (((ρ).set i1 (some (Sl.dat x1))).set i0 (some (Sl.dat x0)))) (k x0 x1) I) (hi : bltAll [i0, i1] ρ.length = true := by rfl) :
    Sim (mSeq (mPar [i0, i1] [.d f0, .d f1]) rest ρ) (bnd q0 fun x0 => bnd q1 fun x1 => k x0 x1) I := by
  rw [seq_par]
  rw [seq_mKs]
  have e0 : ∀ F : Sl × DEnv → Res (Ctl × DEnv), bnd (mK (.d f0) ρ) F = bnd (f0 ρ) fun p => F (Sl.dat p.1, p.2) := fun F => by
    show bnd (bnd (f0 ρ) _) F = _
    cases f0 ρ <;> rfl
  rw [e0]
  refine Sim.bnd h0 fun x0 => ?_
  dsimp only
  rw [seq_mKs]
  have e1 : ∀ F : Sl × DEnv → Res (Ctl × DEnv), bnd (mK (.d f1) ρ) F = bnd (f1 ρ) fun p => F (Sl.dat p.1, p.2) := fun F => by
    show bnd (bnd (f1 ρ) _) F = _
    cases f1 ρ <;> rfl
  rw [e1]
  refine Sim.bnd h1 fun x1 => ?_
  dsimp only
  show Sim (if _ then _ else _) _ I
  rw [if_pos ⟨rfl, bltAll_ok hi⟩]
  exact hk x0 x1
theorem sPar_dn {i0 i1 : Nat} {f0 : EvF} {f1 : EvN} {q0 : Res (D)} {q1 : Res (OB)} {k : D → OB → Res β} (h0 : Ev f0 ρ q0) (h1 : Ev f1 ρ q1) (hk : ∀ x0 x1, Sim (rest (((ρ).set i1 (some (Sl.ob false x1))).set i0 (some (Sl.dat x0)))) (k x0 x1) I) (hi : bltAll [i0, i1] ρ.length = true := by rfl) :
    Sim (mSeq (mPar [i0, i1] [.d f0, .n f1]) rest ρ) (bnd q0 fun x0 => bnd q1 fun x1 => k x0 x1) I := by
  rw [seq_par]
  rw [seq_mKs]
  have e0 : ∀ F : Sl × DEnv → Res (Ctl × DEnv), bnd (mK (.d f0) ρ) F = bnd (f0 ρ) fun p => F (Sl.dat p.1, p.2) := fun F => by
    show bnd (bnd (f0 ρ) _) F = _
    cases f0 ρ <;> rfl
  rw [e0]
  refine Sim.bnd h0 fun x0 => ?_
  dsimp only
  rw [seq_mKs]
  have e1 : ∀ F : Sl × DEnv → Res (Ctl × DEnv), bnd (mK (.n f1) ρ) F = bnd (f1 ρ) fun p => F (Sl.ob false p.1, p.2) := fun F => by
    show bnd (bnd (f1 ρ) _) F = _
    cases f1 ρ <;> rfl
  rw [e1]
  refine Sim.bnd h1 fun x1 => ?_
  dsimp only
  show Sim (if _ then _ else _) _ I
  rw [if_pos ⟨rfl, bltAll_ok hi⟩]
  exact hk x0 x1
theorem sPar_dl {i0 i1 : Nat} {f0 : EvF} {f1 : EvA} {q0 : Res (D)} {q1 : Res (List D)} {k : D → List D → Res β} (h0 : Ev f0 ρ q0) (h1 : Ev f1 ρ q1) (hk : ∀ x0 x1, Sim (rest (((ρ).set i1 (some (Sl.ob false (.lst x1)))).set i0 (some (Sl.dat x0)))) (k x0 x1) I) (hi : bltAll [i0, i1] ρ.length = true := by rfl) :
    Sim (mSeq (mPar [i0, i1] [.d f0, .n (mNL f1)]) rest ρ) (bnd q0 fun x0 => bnd q1 fun x1 => k x0 x1) I := by
  rw [seq_par]
  rw [seq_mKs]
  have e0 : ∀ F : Sl × DEnv → Res (Ctl × DEnv), bnd (mK (.d f0) ρ) F = bnd (f0 ρ) fun p => F (Sl.dat p.1, p.2) := fun F => by
    show bnd (bnd (f0 ρ) _) F = _
    cases f0 ρ <;> rfl
  rw [e0]
  refine Sim.bnd h0 fun x0 => ?_
  dsimp only
  rw [seq_mKs]
  have e1 : ∀ F : Sl × DEnv → Res (Ctl × DEnv), bnd (mK (.n (mNL f1)) ρ) F = bnd (f1 ρ) fun p => F (Sl.ob false (.lst p.1), p.2) := fun F => by
    show bnd (bnd (bnd (f1 ρ) _) _) F = _
    cases f1 ρ <;> rfl
  rw [e1]
  refine Sim.bnd h1 fun x1 => ?_
  dsimp only
  show Sim (if _ then _ else _) _ I
  rw [if_pos ⟨rfl, bltAll_ok hi⟩]
  exact hk x0 x1
theorem sPar_nd {i0 i1 : Nat} {f0 : EvN} {f1 : EvF} {q0 : Res (OB)} {q1 : Res (D)} {k : OB → D → Res β} (h0 : Ev f0 ρ q0) (h1 : Ev f1 ρ q1) (hk : ∀ x0 x1, Sim (rest (((ρ).set i1 (some (Sl.dat x1))).set i0 (some (Sl.ob false x0)))) (k x0 x1) I) (hi : bltAll [i0, i1] ρ.length = true := by rfl) :
    Sim (mSeq (mPar [i0, i1] [.n f0, .d f1]) rest ρ) (bnd q0 fun x0 => bnd q1 fun x1 => k x0 x1) I := by
  rw [seq_par]
  rw [seq_mKs]
  have e0 : ∀ F : Sl × DEnv → Res (Ctl × DEnv), bnd (mK (.n f0) ρ) F = bnd (f0 ρ) fun p => F (Sl.ob false p.1, p.2) := fun F => by
    show bnd (bnd (f0 ρ) _) F = _
    cases f0 ρ <;> rfl
  rw [e0]
  refine Sim.bnd h0 fun x0 => ?_
  dsimp only
  rw [seq_mKs]
  have e1 : ∀ F : Sl × DEnv → Res (Ctl × DEnv), bnd (mK (.d f1) ρ) F = bnd (f1 ρ) fun p => F (Sl.dat p.1, p.2) := fun F => by
    show bnd (bnd (f1 ρ) _) F = _
    cases f1 ρ <;> rfl
  rw [e1]
  refine Sim.bnd h1 fun x1 => ?_
  dsimp only
  show Sim (if _ then _ else _) _ I
  rw [if_pos ⟨rfl, bltAll_ok hi⟩]
  exact hk x0 x1
theorem sPar_nn {i0 i1 : Nat} {f0 : EvN} {f1 : EvN} {q0 : Res (OB)} {q1 : Res (OB)} {k : OB → OB → Res β} (h0 : Ev f0 ρ q0) (h1 : Ev f1 ρ q1) (hk : ∀ x0 x1, Sim (rest (((ρ).set i1 (some (Sl.ob false x1))).set i0 (some (Sl.ob false x0)))) (k x0 x1) I) (hi : bltAll [i0, i1] ρ.length = true := by rfl) :
    Sim (mSeq (mPar [i0, i1] [.n f0, .n f1]) rest ρ) (bnd q0 fun x0 => bnd q1 fun x1 => k x0 x1) I := by
  rw [seq_par]
  rw [seq_mKs]
  have e0 : ∀ F : Sl × DEnv → Res (Ctl × DEnv), bnd (mK (.n f0) ρ) F = bnd (f0 ρ) fun p => F (Sl.ob false p.1, p.2) := fun F => by
    show bnd (bnd (f0 ρ) _) F = _
    cases f0 ρ <;> rfl
  rw [e0]
  refine Sim.bnd h0 fun x0 => ?_
  dsimp only
  rw [seq_mKs]
  have e1 : ∀ F : Sl × DEnv → Res (Ctl × DEnv), bnd (mK (.n f1) ρ) F = bnd (f1 ρ) fun p => F (Sl.ob false p.1, p.2) := fun F => by
    show bnd (bnd (f1 ρ) _) F = _
    cases f1 ρ <;> rfl
  rw [e1]
  refine Sim.bnd h1 fun x1 => ?_
  dsimp only
  show Sim (if _ then _ else _) _ I
  rw [if_pos ⟨rfl, bltAll_ok hi⟩]
  exact hk x0 x1
theorem sPar_nl {i0 i1 : Nat} {f0 : EvN} {f1 : EvA} {q0 : Res (OB)} {q1 : Res (List D)} {k : OB → List D → Res β} (h0 : Ev f0 ρ q0) (h1 : Ev f1 ρ q1) (hk : ∀ x0 x1, Sim (rest (((ρ).set i1 (some (Sl.ob false (.lst x1)))).set i0 (some (Sl.ob false x0)))) (k x0 x1) I) (hi : bltAll [i0, i1] ρ.length = true := by rfl) :
    Sim (mSeq (mPar [i0, i1] [.n f0, .n (mNL f1)]) rest ρ) (bnd q0 fun x0 => bnd q1 fun x1 => k x0 x1) I := by
  rw [seq_par]
  rw [seq_mKs]
  have e0 : ∀ F : Sl × DEnv → Res (Ctl × DEnv), bnd (mK (.n f0) ρ) F = bnd (f0 ρ) fun p => F (Sl.ob false p.1, p.2) := fun F => by
    show bnd (bnd (f0 ρ) _) F = _
    cases f0 ρ <;> rfl
  rw [e0]
  refine Sim.bnd h0 fun x0 => ?_
  dsimp only
  rw [seq_mKs]
  have e1 : ∀ F : Sl × DEnv → Res (Ctl × DEnv), bnd (mK (.n (mNL f1)) ρ) F = bnd (f1 ρ) fun p => F (Sl.ob false (.lst p.1), p.2) := fun F => by
    show bnd (bnd (bnd (f1 ρ) _) _) F = _
    cases f1 ρ <;> rfl
  rw [e1]
  refine Sim.bnd h1 fun x1 => ?_
  dsimp only
  show Sim (if _ then _ else _) _ I
  rw [if_pos ⟨rfl, bltAll_ok hi⟩]
  exact hk x0 x1
theorem sPar_ld {i0 i1 : Nat} {f0 : EvA} {f1 : EvF} {q0 : Res (List D)} {q1 : Res (D)} {k : List D → D → Res β} (h0 : Ev f0 ρ q0) (h1 : Ev f1 ρ q1) (hk : ∀ x0 x1, Sim (rest (((ρ).set i1 (some (Sl.dat x1))).set i0 (some (Sl.ob false (.lst x0))))) (k x0 x1) I) (hi : bltAll [i0, i1] ρ.length = true := by rfl) :
    Sim (mSeq (mPar [i0, i1] [.n (mNL f0), .d f1]) rest ρ) (bnd q0 fun x0 => bnd q1 fun x1 => k x0 x1) I := by
  rw [seq_par]
  rw [seq_mKs]
  have e0 : ∀ F : Sl × DEnv → Res (Ctl × DEnv), bnd (mK (.n (mNL f0)) ρ) F = bnd (f0 ρ) fun p => F (Sl.ob false (.lst p.1), p.2) := fun F => by
    show bnd (bnd (bnd (f0 ρ) _) _) F = _
    cases f0 ρ <;> rfl
  rw [e0]
  refine Sim.bnd h0 fun x0 => ?_
  dsimp only
  rw [seq_mKs]
  have e1 : ∀ F : Sl × DEnv → Res (Ctl × DEnv), bnd (mK (.d f1) ρ) F = bnd (f1 ρ) fun p => F (Sl.dat p.1, p.2) := fun F => by
    show bnd (bnd (f1 ρ) _) F = _
    cases f1 ρ <;> rfl
  rw [e1]
  refine Sim.bnd h1 fun x1 => ?_
  dsimp only
  show Sim (if _ then _ else _) _ I
  rw [if_pos ⟨rfl, bltAll_ok hi⟩]
  exact hk x0 x1
theorem sPar_ln {i0 i1 : Nat} {f0 : EvA} {f1 : EvN} {q0 : Res (List D)} {q1 : Res (OB)} {k : List D → OB → Res β} (h0 : Ev f0 ρ q0) (h1 : Ev f1 ρ q1) (hk : ∀ x0 x1, Sim (rest (((ρ).set i1 (some (Sl.ob false x1))).set i0 (some (Sl.ob false (.lst x0))))) (k x0 x1) I) (hi : bltAll [i0, i1] ρ.length = true := by rfl) :
    Sim (mSeq (mPar [i0, i1] [.n (mNL f0), .n f1]) rest ρ) (bnd q0 fun x0 => bnd q1 fun x1 => k x0 x1) I := by
  rw [seq_par]
  rw [seq_mKs]
  have e0 : ∀ F : Sl × DEnv → Res (Ctl × DEnv), bnd (mK (.n (mNL f0)) ρ) F = bnd (f0 ρ) fun p => F (Sl.ob false (.lst p.1), p.2) := fun F => by
    show bnd (bnd (bnd (f0 ρ) _) _) F = _
    cases f0 ρ <;> rfl
  rw [e0]
  refine Sim.bnd h0 fun x0 => ?_
  dsimp only
  rw [seq_mKs]
  have e1 : ∀ F : Sl × DEnv → Res (Ctl × DEnv), bnd (mK (.n f1) ρ) F = bnd (f1 ρ) fun p => F (Sl.ob false p.1, p.2) := fun F => by
    show bnd (bnd (f1 ρ) _) F = _
    cases f1 ρ <;> rfl
  rw [e1]
  refine Sim.bnd h1 fun x1 => ?_
  dsimp only
  show Sim (if _ then _ else _) _ I
  rw [if_pos ⟨rfl, bltAll_ok hi⟩]
  exact hk x0 x1
theorem sPar_ll {i0 i1 : Nat} {f0 : EvA} {f1 : EvA} {q0 : Res (List D)} {q1 : Res (List D)} {k : List D → List D → Res β} (h0 : Ev f0 ρ q0) (h1 : Ev f1 ρ q1) (hk : ∀ x0 x1, Sim (rest (((ρ).set i1 (some (Sl.ob false (.lst x1)))).set i0 (some (Sl.ob false (.lst x0))))) (k x0 x1) I) (hi : bltAll [i0, i1] ρ.length = true := by rfl) :
    Sim (mSeq (mPar [i0, i1] [.n (mNL f0), .n (mNL f1)]) rest ρ) (bnd q0 fun x0 => bnd q1 fun x1 => k x0 x1) I := by
  rw [seq_par]
  rw [seq_mKs]
  have e0 : ∀ F : Sl × DEnv → Res (Ctl × DEnv), bnd (mK (.n (mNL f0)) ρ) F = bnd (f0 ρ) fun p => F (Sl.ob false (.lst p.1), p.2) := fun F => by
    show bnd (bnd (bnd (f0 ρ) _) _) F = _
    cases f0 ρ <;> rfl
  rw [e0]
  refine Sim.bnd h0 fun x0 => ?_
  dsimp only
  rw [seq_mKs]
  have e1 : ∀ F : Sl × DEnv → Res (Ctl × DEnv), bnd (mK (.n (mNL f1)) ρ) F = bnd (f1 ρ) fun p => F (Sl.ob false (.lst p.1), p.2) := fun F => by
    show bnd (bnd (bnd (f1 ρ) _) _) F = _
    cases f1 ρ <;> rfl
  rw [e1]
  refine Sim.bnd h1 fun x1 => ?_
  dsimp only
  show Sim (if _ then _ else _) _ I
  rw [if_pos ⟨rfl, bltAll_ok hi⟩]
  exact hk x0 x1
theorem sPar_ddd {i0 i1 i2 : Nat} {f0 : EvF} {f1 : EvF} {f2 : EvF} {q0 : Res (D)} {q1 : Res (D)} {q2 : Res (D)} {k : D → D → D → Res β} (h0 : Ev f0 ρ q0) (h1 : Ev f1 ρ q1) (h2 : Ev f2 ρ q2) (hk : ∀ x0 x1 x2, Sim (rest ((((ρ).set i2 (some (Sl.dat x2))).set i1 (some (Sl.dat x1))).set i0 (some (Sl.dat x0)))) (k x0 x1 x2) I) (hi : bltAll [i0, i1, i2] ρ.length = true := by rfl) :
    Sim (mSeq (mPar [i0, i1, i2] [.d f0, .d f1, .d f2]) rest ρ) (bnd q0 fun x0 => bnd q1 fun x1 => bnd q2 fun x2 => k x0 x1 x2) I := by
  rw [seq_par]
  rw [seq_mKs]
  have e0 : ∀ F : Sl × DEnv → Res (Ctl × DEnv), bnd (mK (.d f0) ρ) F = bnd (f0 ρ) fun p => F (Sl.dat p.1, p.2) := fun F => by
    show bnd (bnd (f0 ρ) _) F = _
    cases f0 ρ <;> rfl
  rw [e0]
  refine Sim.bnd h0 fun x0 => ?_
  dsimp only
  rw [seq_mKs]
  have e1 : ∀ F : Sl × DEnv → Res (Ctl × DEnv), bnd (mK (.d f1) ρ) F = bnd (f1 ρ) fun p => F (Sl.dat p.1, p.2) := fun F => by
    show bnd (bnd (f1 ρ) _) F = _
    cases f1 ρ <;> rfl
  rw [e1]
  refine Sim.bnd h1 fun x1 => ?_
  dsimp only
  rw [seq_mKs]
  have e2 : ∀ F : Sl × DEnv → Res (Ctl × DEnv), bnd (mK (.d f2) ρ) F = bnd (f2 ρ) fun p => F (Sl.dat p.1, p.2) := fun F => by
    show bnd (bnd (f2 ρ) _) F = _
    cases f2 ρ <;> rfl
  rw [e2]
  refine Sim.bnd h2 fun x2 => ?_
  dsimp only
  show Sim (if _ then _ else _) _ I
  rw [if_pos ⟨rfl, bltAll_ok hi⟩]
  exact hk x0 x1 x2
theorem sPar_ddn {i0 i1 i2 : Nat} {f0 : EvF} {f1 : EvF} {f2 : EvN} {q0 : Res (D)} {q1 : Res (D)} {q2 : Res (OB)} {k : D → D → OB → Res β} (h0 : Ev f0 ρ q0) (h1 : Ev f1 ρ q1) (h2 : Ev f2 ρ q2) (hk : ∀ x0 x1 x2, Sim (rest ((((ρ).set i2 (some (Sl.ob false x2))).set i1 (some (Sl.dat x1))).set i0 (some (Sl.dat x0)))) (k x0 x1 x2) I) (hi : bltAll [i0, i1, i2] ρ.length = true := by rfl) :
    Sim (mSeq (mPar [i0, i1, i2] [.d f0, .d f1, .n f2]) rest ρ) (bnd q0 fun x0 => bnd q1 fun x1 => bnd q2 fun x2 => k x0 x1 x2) I := by
  rw [seq_par]
  rw [seq_mKs]
  have e0 : ∀ F : Sl × DEnv → Res (Ctl × DEnv), bnd (mK (.d f0) ρ) F = bnd (f0 ρ) fun p => F (Sl.dat p.1, p.2) := fun F => by
    show bnd (bnd (f0 ρ) _) F = _
    cases f0 ρ <;> rfl
  rw [e0]
  refine Sim.bnd h0 fun x0 => ?_
  dsimp only
  rw [seq_mKs]
  have e1 : ∀ F : Sl × DEnv → Res (Ctl × DEnv), bnd (mK (.d f1) ρ) F = bnd (f1 ρ) fun p => F (Sl.dat p.1, p.2) := fun F => by
    show bnd (bnd (f1 ρ) _) F = _
    cases f1 ρ <;> rfl
  rw [e1]
  refine Sim.bnd h1 fun x1 => ?_
  dsimp only
  rw [seq_mKs]
  have e2 : ∀ F : Sl × DEnv → Res (Ctl × DEnv), bnd (mK (.n f2) ρ) F = bnd (f2 ρ) fun p => F (Sl.ob false p.1, p.2) := fun F => by
    show bnd (bnd (f2 ρ) _) F = _
    cases f2 ρ <;> rfl
  rw [e2]
  refine Sim.bnd h2 fun x2 => ?_
  dsimp only
  show Sim (if _ then _ else _) _ I
  rw [if_pos ⟨rfl, bltAll_ok hi⟩]
  exact hk x0 x1 x2
theorem sPar_ddl {i0 i1 i2 : Nat} {f0 : EvF} {f1 : EvF} {f2 : EvA} {q0 : Res (D)} {q1 : Res (D)} {q2 : Res (List D)} {k : D → D → List D → Res β} (h0 : Ev f0 ρ q0) (h1 : Ev f1 ρ q1) (h2 : Ev f2 ρ q2) (hk : ∀ x0 x1 x2, Sim (rest ((((ρ).set i2 (some (Sl.ob false (.lst x2)))).set i1 (some (Sl.dat x1))).set i0 (some (Sl.dat x0)))) (k x0 x1 x2) I) (hi : bltAll [i0, i1, i2] ρ.length = true := by rfl) :
    Sim (mSeq (mPar [i0, i1, i2] [.d f0, .d f1, .n (mNL f2)]) rest ρ) (bnd q0 fun x0 => bnd q1 fun x1 => bnd q2 fun x2 => k x0 x1 x2) I := by
  rw [seq_par]
  rw [seq_mKs]
  have e0 : ∀ F : Sl × DEnv → Res (Ctl × DEnv), bnd (mK (.d f0) ρ) F = bnd (f0 ρ) fun p => F (Sl.dat p.1, p.2) := fun F => by
    show bnd (bnd (f0 ρ) _) F = _
    cases f0 ρ <;> rfl
  rw [e0]
  refine Sim.bnd h0 fun x0 => ?_
  dsimp only
  rw [seq_mKs]
  have e1 : ∀ F : Sl × DEnv → Res (Ctl × DEnv), bnd (mK (.d f1) ρ) F = bnd (f1 ρ) fun p => F (Sl.dat p.1, p.2) := fun F => by
    show bnd (bnd (f1 ρ) _) F = _
    cases f1 ρ <;> rfl
  rw [e1]
  refine Sim.bnd h1 fun x1 => ?_
  dsimp only
  rw [seq_mKs]
  have e2 : ∀ F : Sl × DEnv → Res (Ctl × DEnv), bnd (mK (.n (mNL f2)) ρ) F = bnd (f2 ρ) fun p => F (Sl.ob false (.lst p.1), p.2) := fun F => by
    show bnd (bnd (bnd (f2 ρ) _) _) F = _
    cases f2 ρ <;> rfl
  rw [e2]
  refine Sim.bnd h2 fun x2 => ?_
  dsimp only
  show Sim (if _ then _ else _) _ I
  rw [if_pos ⟨rfl, bltAll_ok hi⟩]
  exact hk x0 x1 x2
theorem sPar_dnd {i0 i1 i2 : Nat} {f0 : EvF} {f1 : EvN} {f2 : EvF} {q0 : Res (D)} {q1 : Res (OB)} {q2 : Res (D)} {k : D → OB → D → Res β} (h0 : Ev f0 ρ q0) (h1 : Ev f1 ρ q1) (h2 : Ev f2 ρ q2) (hk : ∀ x0 x1 x2, Sim (rest ((((ρ).set i2 (some (Sl.dat x2))).set i1 (some (Sl.ob false x1))).set i0 (some (Sl.dat x0)))) (k x0 x1 x2) I) (hi : bltAll [i0, i1, i2] ρ.length = true := by rfl) :
    Sim (mSeq (mPar [i0, i1, i2] [.d f0, .n f1, .d f2]) rest ρ) (bnd q0 fun x0 => bnd q1 fun x1 => bnd q2 fun x2 => k x0 x1 x2) I := by
  rw [seq_par]
  rw [seq_mKs]
  have e0 : ∀ F : Sl × DEnv → Res (Ctl × DEnv), bnd (mK (.d f0) ρ) F = bnd (f0 ρ) fun p => F (Sl.dat p.1, p.2) := fun F => by
    show bnd (bnd (f0 ρ) _) F = _
    cases f0 ρ <;> rfl
  rw [e0]
  refine Sim.bnd h0 fun x0 => ?_
  dsimp only
  rw [seq_mKs]
  have e1 : ∀ F : Sl × DEnv → Res (Ctl × DEnv), bnd (mK (.n f1) ρ) F = bnd (f1 ρ) fun p => F (Sl.ob false p.1, p.2) := fun F => by
    show bnd (bnd (f1 ρ) _) F = _
    cases f1 ρ <;> rfl
  rw [e1]
  refine Sim.bnd h1 fun x1 => ?_
  dsimp only
  rw [seq_mKs]
  have e2 : ∀ F : Sl × DEnv → Res (Ctl × DEnv), bnd (mK (.d f2) ρ) F = bnd (f2 ρ) fun p => F (Sl.dat p.1, p.2) := fun F => by
    show bnd (bnd (f2 ρ) _) F = _
    cases f2 ρ <;> rfl
  rw [e2]
  refine Sim.bnd h2 fun x2 => ?_
  dsimp only
  show Sim (if _ then _ else _) _ I
  rw [if_pos ⟨rfl, bltAll_ok hi⟩]
  exact hk x0 x1 x2
theorem sPar_dnn {i0 i1 i2 : Nat} {f0 : EvF} {f1 : EvN} {f2 : EvN} {q0 : Res (D)} {q1 : Res (OB)} {q2 : Res (OB)} {k : D → OB → OB → Res β} (h0 : Ev f0 ρ q0) (h1 : Ev f1 ρ q1) (h2 : Ev f2 ρ q2) (hk : ∀ x0 x1 x2, Sim (rest ((((ρ).set i2 (some (Sl.ob false x2))).set i1 (some (Sl.ob false x1))).set i0 (some (Sl.dat x0)))) (k x0 x1 x2) I) (hi : bltAll [i0, i1, i2] ρ.length = true := by rfl) :
    Sim (mSeq (mPar [i0, i1, i2] [.d f0, .n f1, .n f2]) rest ρ) (bnd q0 fun x0 => bnd q1 fun x1 => bnd q2 fun x2 => k x0 x1 x2) I := by
  rw [seq_par]
  rw [seq_mKs]
  have e0 : ∀ F : Sl × DEnv → Res (Ctl × DEnv), bnd (mK (.d f0) ρ) F = bnd (f0 ρ) fun p => F (Sl.dat p.1, p.2) := fun F => by
    show bnd (bnd (f0 ρ) _) F = _
    cases f0 ρ <;> rfl
  rw [e0]
  refine Sim.bnd h0 fun x0 => ?_
  dsimp only
  rw [seq_mKs]
  have e1 : ∀ F : Sl × DEnv → Res (Ctl × DEnv), bnd (mK (.n f1) ρ) F = bnd (f1 ρ) fun p => F (Sl.ob false p.1, p.2) := fun F => by
    show bnd (bnd (f1 ρ) _) F = _
    cases f1 ρ <;> rfl
  rw [e1]
  refine Sim.bnd h1 fun x1 => ?_
  dsimp only
  rw [seq_mKs]
  have e2 : ∀ F : Sl × DEnv → Res (Ctl × DEnv), bnd (mK (.n f2) ρ) F = bnd (f2 ρ) fun p => F (Sl.ob false p.1, p.2) := fun F => by
    show bnd (bnd (f2 ρ) _) F = _
    cases f2 ρ <;> rfl
  rw [e2]
  refine Sim.bnd h2 fun x2 => ?_
  dsimp only
  show Sim (if _ then _ else _) _ I
  rw [if_pos ⟨rfl, bltAll_ok hi⟩]
  exact hk x0 x1 x2
theorem sPar_dnl {i0 i1 i2 : Nat} {f0 : EvF} {f1 : EvN} {f2 : EvA} {q0 : Res (D)} {q1 : Res (OB)} {q2 : Res (List D)} {k : D → OB → List D → Res β} (h0 : Ev f0 ρ q0) (h1 : Ev f1 ρ q1) (h2 : Ev f2 ρ q2) (hk : ∀ x0 x1 x2, Sim (rest ((((ρ).set i2 (some (Sl.ob false (.lst x2)))).set i1 (some (Sl.ob false x1))).set i0 (some (Sl.dat x0)))) (k x0 x1 x2) I) (hi : bltAll [i0, i1, i2] ρ.length = true := by rfl) :
    Sim (mSeq (mPar [i0, i1, i2] [.d f0, .n f1, .n (mNL f2)]) rest ρ) (bnd q0 fun x0 => bnd q1 fun x1 => bnd q2 fun x2 => k x0 x1 x2) I := by
  rw [seq_par]
  rw [seq_mKs]
  have e0 : ∀ F : Sl × DEnv → Res (Ctl × DEnv), bnd (mK (.d f0) ρ) F = bnd (f0 ρ) fun p => F (Sl.dat p.1, p.2) := fun F => by
    show bnd (bnd (f0 ρ) _) F = _
    cases f0 ρ <;> rfl
  rw [e0]
  refine Sim.bnd h0 fun x0 => ?_
  dsimp only
  rw [seq_mKs]
  have e1 : ∀ F : Sl × DEnv → Res (Ctl × DEnv), bnd (mK (.n f1) ρ) F = bnd (f1 ρ) fun p => F (Sl.ob false p.1, p.2) := fun F => by
    show bnd (bnd (f1 ρ) _) F = _
    cases f1 ρ <;> rfl
  rw [e1]
  refine Sim.bnd h1 fun x1 => ?_
  dsimp only
  rw [seq_mKs]
  have e2 : ∀ F : Sl × DEnv → Res (Ctl × DEnv), bnd (mK (.n (mNL f2)) ρ) F = bnd (f2 ρ) fun p => F (Sl.ob false (.lst p.1), p.2) := fun F => by
    show bnd (bnd (bnd (f2 ρ) _) _) F = _
    cases f2 ρ <;> rfl
  rw [e2]
  refine Sim.bnd h2 fun x2 => ?_
  dsimp only
  show Sim (if _ then _ else _) _ I
  rw [if_pos ⟨rfl, bltAll_ok hi⟩]
  exact hk x0 x1 x2
theorem sPar_dld {i0 i1 i2 : Nat} {f0 : EvF} {f1 : EvA} {f2 : EvF} {q0 : Res (D)} {q1 : Res (List D)} {q2 : Res (D)} {k : D → List D → D → Res β} (h0 : Ev f0 ρ q0) (h1 : Ev f1 ρ q1) (h2 : Ev f2 ρ q2) (hk : ∀ x0 x1 x2, Sim (rest ((((ρ).set i2 (some (Sl.dat x2))).set i1 (some (Sl.ob false (.lst x1)))).set i0 (some (Sl.dat x0)))) (k x0 x1 x2) I) (hi : bltAll [i0, i1, i2] ρ.length = true := by rfl) :
    Sim (mSeq (mPar [i0, i1, i2] [.d f0, .n (mNL f1), .d f2]) rest ρ) (bnd q0 fun x0 => bnd q1 fun x1 => bnd q2 fun x2 => k x0 x1 x2) I := by
  rw [seq_par]
  rw [seq_mKs]
  have e0 : ∀ F : Sl × DEnv → Res (Ctl × DEnv), bnd (mK (.d f0) ρ) F = bnd (f0 ρ) fun p => F (Sl.dat p.1, p.2) := fun F => by
    show bnd (bnd (f0 ρ) _) F = _
    cases f0 ρ <;> rfl
  rw [e0]
  refine Sim.bnd h0 fun x0 => ?_
  dsimp only
  rw [seq_mKs]
  have e1 : ∀ F : Sl × DEnv → Res (Ctl × DEnv), bnd (mK (.n (mNL f1)) ρ) F = bnd (f1 ρ) fun p => F (Sl.ob false (.lst p.1), p.2) := fun F => by
    show bnd (bnd (bnd (f1 ρ) _) _) F = _
    cases f1 ρ <;> rfl
  rw [e1]
  refine Sim.bnd h1 fun x1 => ?_
  dsimp only
  rw [seq_mKs]
  have e2 : ∀ F : Sl × DEnv → Res (Ctl × DEnv), bnd (mK (.d f2) ρ) F = bnd (f2 ρ) fun p => F (Sl.dat p.1, p.2) := fun F => by
    show bnd (bnd (f2 ρ) _) F = _
    cases f2 ρ <;> rfl
  rw [e2]
  refine Sim.bnd h2 fun x2 => ?_
  dsimp only
  show Sim (if _ then _ else _) _ I
  rw [if_pos ⟨rfl, bltAll_ok hi⟩]
  exact hk x0 x1 x2
theorem sPar_dln {i0 i1 i2 : Nat} {f0 : EvF} {f1 : EvA} {f2 : EvN} {q0 : Res (D)} {q1 : Res (List D)} {q2 : Res (OB)} {k : D → List D → OB → Res β} (h0 : Ev f0 ρ q0) (h1 : Ev f1 ρ q1) (h2 : Ev f2 ρ q2) (hk : ∀ x0 x1 x2, Sim (rest ((((ρ).set i2 (some (Sl.ob false x2))).set i1 (some (Sl.ob false (.lst x1)))).set i0 (some (Sl.dat x0)))) (k x0 x1 x2) I) (hi : bltAll [i0, i1, i2] ρ.length = true := by rfl) :
    Sim (mSeq (mPar [i0, i1, i2] [.d f0, .n (mNL f1), .n f2]) rest ρ) (bnd q0 fun x0 => bnd q1 fun x1 => bnd q2 fun x2 => k x0 x1 x2) I := by
  rw [seq_par]
  rw [seq_mKs]
  have e0 : ∀ F : Sl × DEnv → Res (Ctl × DEnv), bnd (mK (.d f0) ρ) F = bnd (f0 ρ) fun p => F (Sl.dat p.1, p.2) := fun F => by
    show bnd (bnd (f0 ρ) _) F = _
    cases f0 ρ <;> rfl
  rw [e0]
  refine Sim.bnd h0 fun x0 => ?_
  dsimp only
  rw [seq_mKs]
  have e1 : ∀ F : Sl × DEnv → Res (Ctl × DEnv), bnd (mK (.n (mNL f1)) ρ) F = bnd (f1 ρ) fun p => F (Sl.ob false (.lst p.1), p.2) := fun F => by
    show bnd (bnd (bnd (f1 ρ) _) _) F = _
    cases f1 ρ <;> rfl
  rw [e1]
  refine Sim.bnd h1 fun x1 => ?_
  dsimp only
  rw [seq_mKs]
  have e2 : ∀ F : Sl × DEnv → Res (Ctl × DEnv), bnd (mK (.n f2) ρ) F = bnd (f2 ρ) fun p => F (Sl.ob false p.1, p.2) := fun F => by
    show bnd (bnd (f2 ρ) _) F = _
    cases f2 ρ <;> rfl
  rw [e2]
  refine Sim.bnd h2 fun x2 => ?_
  dsimp only
  show Sim (if _ then _ else _) _ I
  rw [if_pos ⟨rfl, bltAll_ok hi⟩]
  exact hk x0 x1 x2
theorem sPar_dll {i0 i1 i2 : Nat} {f0 : EvF} {f1 : EvA} {f2 : EvA} {q0 : Res (D)} {q1 : Res (List D)} {q2 : Res (List D)} {k : D → List D → List D → Res β} (h0 : Ev f0 ρ q0) (h1 : Ev f1 ρ q1) (h2 : Ev f2 ρ q2) (hk : ∀ x0 x1 x2, Sim (rest ((((ρ).set i2 (some (Sl.ob false (.lst x2)))).set i1 (some (Sl.ob false (.lst x1)))).set i0 (some (Sl.dat x0)))) (k x0 x1 x2) I) (hi : bltAll [i0, i1, i2] ρ.length = true := by rfl) :
    Sim (mSeq (mPar [i0, i1, i2] [.d f0, .n (mNL f1), .n (mNL f2)]) rest ρ) (bnd q0 fun x0 => bnd q1 fun x1 => bnd q2 fun x2 => k x0 x1 x2) I := by
  rw [seq_par]
  rw [seq_mKs]
  have e0 : ∀ F : Sl × DEnv → Res (Ctl × DEnv), bnd (mK (.d f0) ρ) F = bnd (f0 ρ) fun p => F (Sl.dat p.1, p.2) := fun F => by
    show bnd (bnd (f0 ρ) _) F = _
    cases f0 ρ <;> rfl
  rw [e0]
  refine Sim.bnd h0 fun x0 => ?_
  dsimp only
  rw [seq_mKs]
  have e1 : ∀ F : Sl × DEnv → Res (Ctl × DEnv), bnd (mK (.n (mNL f1)) ρ) F = bnd (f1 ρ) fun p => F (Sl.ob false (.lst p.1), p.2) := fun F => by
    show bnd (bnd (bnd (f1 ρ) _) _) F = _
    cases f1 ρ <;> rfl
  rw [e1]
  refine Sim.bnd h1 fun x1 => ?_
  dsimp only
  rw [seq_mKs]
  have e2 : ∀ F : Sl × DEnv → Res (Ctl × DEnv), bnd (mK (.n (mNL f2)) ρ) F = bnd (f2 ρ) fun p => F (Sl.ob false (.lst p.1), p.2) := fun F => by
    show bnd (bnd (bnd (f2 ρ) _) _) F = _
    cases f2 ρ <;> rfl
  rw [e2]
  refine Sim.bnd h2 fun x2 => ?_
  dsimp only
  show Sim (if _ then _ else _) _ I
  rw [if_pos ⟨rfl, bltAll_ok hi⟩]
  exact hk x0 x1 x2
theorem sPar_ndd {i0 i1 i2 : Nat} {f0 : EvN} {f1 : EvF} {f2 : EvF} {q0 : Res (OB)} {q1 : Res (D)} {q2 : Res (D)} {k : OB → D → D → Res β} (h0 : Ev f0 ρ q0) (h1 : Ev f1 ρ q1) (h2 : Ev f2 ρ q2) (hk : ∀ x0 x1 x2, Sim (rest ((((ρ).set i2 (some (Sl.dat x2))).set i1 (some (Sl.dat x1))).set i0 (some (Sl.ob false x0)))) (k x0 x1 x2) I) (hi : bltAll [i0, i1, i2] ρ.length = true := by rfl) :
    Sim (mSeq (mPar [i0, i1, i2] [.n f0, .d f1, .d f2]) rest ρ) (bnd q0 fun x0 => bnd q1 fun x1 => bnd q2 fun x2 => k x0 x1 x2) I := by
  rw [seq_par]
  rw [seq_mKs]
  have e0 : ∀ F : Sl × DEnv → Res (Ctl × DEnv), bnd (mK (.n f0) ρ) F = bnd (f0 ρ) fun p => F (Sl.ob false p.1, p.2) := fun F => by
    show bnd (bnd (f0 ρ) _) F = _
    cases f0 ρ <;> rfl
  rw [e0]
  refine Sim.bnd h0 fun x0 => ?_
  dsimp only
  rw [seq_mKs]
  have e1 : ∀ F : Sl × DEnv → Res (Ctl × DEnv), bnd (mK (.d f1) ρ) F = bnd (f1 ρ) fun p => F (Sl.dat p.1, p.2) := fun F => by
    show bnd (bnd (f1 ρ) _) F = _
    cases f1 ρ <;> rfl
  rw [e1]
  refine Sim.bnd h1 fun x1 => ?_
  dsimp only
  rw [seq_mKs]
  have e2 : ∀ F : Sl × DEnv → Res (Ctl × DEnv), bnd (mK (.d f2) ρ) F = bnd (f2 ρ) fun p => F (Sl.dat p.1, p.2) := fun F => by
    show bnd (bnd (f2 ρ) _) F = _
    cases f2 ρ <;> rfl
  rw [e2]
  refine Sim.bnd h2 fun x2 => ?_
  dsimp only
  show Sim (if _ then _ else _) _ I
  rw [if_pos ⟨rfl, bltAll_ok hi⟩]
  exact hk x0 x1 x2
theorem sPar_ndn {i0 i1 i2 : Nat} {f0 : EvN} {f1 : EvF} {f2 : EvN} {q0 : Res (OB)} {q1 : Res (D)} {q2 : Res (OB)} {k : OB → D → OB → Res β} (h0 : Ev f0 ρ q0) (h1 : Ev f1 ρ q1) (h2 : Ev f2 ρ q2) (hk : ∀ x0 x1 x2, Sim (rest ((((ρ).set i2 (some (Sl.ob false x2))).set i1 (some (Sl.dat x1))).set i0 (some (Sl.ob false x0)))) (k x0 x1 x2) I) (hi : bltAll [i0, i1, i2] ρ.length = true := by rfl) :
    Sim (mSeq (mPar [i0, i1, i2] [.n f0, .d f1, .n f2]) rest ρ) (bnd q0 fun x0 => bnd q1 fun x1 => bnd q2 fun x2 => k x0 x1 x2) I := by
  rw [seq_par]
  rw [seq_mKs]
  have e0 : ∀ F : Sl × DEnv → Res (Ctl × DEnv), bnd (mK (.n f0) ρ) F = bnd (f0 ρ) fun p => F (Sl.ob false p.1, p.2) := fun F => by
    show bnd (bnd (f0 ρ) _) F = _
    cases f0 ρ <;> rfl
  rw [e0]
  refine Sim.bnd h0 fun x0 => ?_
  dsimp only
  rw [seq_mKs]
  have e1 : ∀ F : Sl × DEnv → Res (Ctl × DEnv), bnd (mK (.d f1) ρ) F = bnd (f1 ρ) fun p => F (Sl.dat p.1, p.2) := fun F => by
    show bnd (bnd (f1 ρ) _) F = _
    cases f1 ρ <;> rfl
  rw [e1]
  refine Sim.bnd h1 fun x1 => ?_
  dsimp only
  rw [seq_mKs]
  have e2 : ∀ F : Sl × DEnv → Res (Ctl × DEnv), bnd (mK (.n f2) ρ) F = bnd (f2 ρ) fun p => F (Sl.ob false p.1, p.2) := fun F => by
    show bnd (bnd (f2 ρ) _) F = _
    cases f2 ρ <;> rfl
  rw [e2]
  refine Sim.bnd h2 fun x2 => ?_
  dsimp only
  show Sim (if _ then _ else _) _ I
  rw [if_pos ⟨rfl, bltAll_ok hi⟩]
  exact hk x0 x1 x2
theorem sPar_ndl {i0 i1 i2 : Nat} {f0 : EvN} {f1 : EvF} {f2 : EvA} {q0 : Res (OB)} {q1 : Res (D)} {q2 : Res (List D)} {k : OB → D → List D → Res β} (h0 : Ev f0 ρ q0) (h1 : Ev f1 ρ q1) (h2 : Ev f2 ρ q2) (hk : ∀ x0 x1 x2, Sim (rest ((((ρ).set i2 (some (Sl.ob false (.lst x2)))).set i1 (some (Sl.dat x1))).set i0 (some (Sl.ob false x0)))) (k x0 x1 x2) I) (hi : bltAll [i0, i1, i2] ρ.length = true := by rfl) :
    Sim (mSeq (mPar [i0, i1, i2] [.n f0, .d f1, .n (mNL f2)]) rest ρ) (bnd q0 fun x0 => bnd q1 fun x1 => bnd q2 fun x2 => k x0 x1 x2) I := by
  rw [seq_par]
  rw [seq_mKs]
  have e0 : ∀ F : Sl × DEnv → Res (Ctl × DEnv), bnd (mK (.n f0) ρ) F = bnd (f0 ρ) fun p => F (Sl.ob false p.1, p.2) := fun F => by
    show bnd (bnd (f0 ρ) _) F = _
    cases f0 ρ <;> rfl
  rw [e0]
  refine Sim.bnd h0 fun x0 => ?_
  dsimp only
  rw [seq_mKs]
  have e1 : ∀ F : Sl × DEnv → Res (Ctl × DEnv), bnd (mK (.d f1) ρ) F = bnd (f1 ρ) fun p => F (Sl.dat p.1, p.2) := fun F => by
    show bnd (bnd (f1 ρ) _) F = _
    cases f1 ρ <;> rfl
  rw [e1]
  refine Sim.bnd h1 fun x1 => ?_
  dsimp only
  rw [seq_mKs]
  have e2 : ∀ F : Sl × DEnv → Res (Ctl × DEnv), bnd (mK (.n (mNL f2)) ρ) F = bnd (f2 ρ) fun p => F (Sl.ob false (.lst p.1), p.2) := fun F => by
    show bnd (bnd (bnd (f2 ρ) _) _) F = _
    cases f2 ρ <;> rfl
  rw [e2]
  refine Sim.bnd h2 fun x2 => ?_
  dsimp only
  show Sim (if _ then _ else _) _ I
  rw [if_pos ⟨rfl, bltAll_ok hi⟩]
  exact hk x0 x1 x2
theorem sPar_nnd {i0 i1 i2 : Nat} {f0 : EvN} {f1 : EvN} {f2 : EvF} {q0 : Res (OB)} {q1 : Res (OB)} {q2 : Res (D)} {k : OB → OB → D → Res β} (h0 : Ev f0 ρ q0) (h1 : Ev f1 ρ q1) (h2 : Ev f2 ρ q2) (hk : ∀ x0 x1 x2, Sim (rest ((((ρ).set i2 (some (Sl.dat x2))).set i1 (some (Sl.ob false x1))).set i0 (some (Sl.ob false x0)))) (k x0 x1 x2) I) (hi : bltAll [i0, i1, i2] ρ.length = true := by rfl) :
    Sim (mSeq (mPar [i0, i1, i2] [.n f0, .n f1, .d f2]) rest ρ) (bnd q0 fun x0 => bnd q1 fun x1 => bnd q2 fun x2 => k x0 x1 x2) I := by
  rw [seq_par]
  rw [seq_mKs]
  have e0 : ∀ F : Sl × DEnv → Res (Ctl × DEnv), bnd (mK (.n f0) ρ) F = bnd (f0 ρ) fun p => F (Sl.ob false p.1, p.2) := fun F => by
    show bnd (bnd (f0 ρ) _) F = _
    cases f0 ρ <;> rfl
  rw [e0]
  refine Sim.bnd h0 fun x0 => ?_
  dsimp only
  rw [seq_mKs]
  have e1 : ∀ F : Sl × DEnv → Res (Ctl × DEnv), bnd (mK (.n f1) ρ) F = bnd (f1 ρ) fun p => F (Sl.ob false p.1, p.2) := fun F => by
    show bnd (bnd (f1 ρ) _) F = _
    cases f1 ρ <;> rfl
  rw [e1]
  refine Sim.bnd h1 fun x1 => ?_
  dsimp only
  rw [seq_mKs]
  have e2 : ∀ F : Sl × DEnv → Res (Ctl × DEnv), bnd (mK (.d f2) ρ) F = bnd (f2 ρ) fun p => F (Sl.dat p.1, p.2) := fun F => by
    show bnd (bnd (f2 ρ) _) F = _
    cases f2 ρ <;> rfl
  rw [e2]
  refine Sim.bnd h2 fun x2 => ?_
  dsimp only
  show Sim (if _ then _ else _) _ I
  rw [if_pos ⟨rfl, bltAll_ok hi⟩]
  exact hk x0 x1 x2
theorem sPar_nnn {i0 i1 i2 : Nat} {f0 : EvN} {f1 : EvN} {f2 : EvN} {q0 : Res (OB)} {q1 : Res (OB)} {q2 : Res (OB)} {k : OB → OB → OB → Res β} (h0 : Ev f0 ρ q0) (h1 : Ev f1 ρ q1) (h2 : Ev f2 ρ q2) (hk : ∀ x0 x1 x2, Sim (rest ((((ρ).set i2 (some (Sl.ob false x2))).set i1 (some (Sl.ob false x1))).set i0 (some (Sl.ob false x0)))) (k x0 x1 x2) I) (hi : bltAll [i0, i1, i2] ρ.length = true := by rfl) :
    Sim (mSeq (mPar [i0, i1, i2] [.n f0, .n f1, .n f2]) rest ρ) (bnd q0 fun x0 => bnd q1 fun x1 => bnd q2 fun x2 => k x0 x1 x2) I := by
  rw [seq_par]
  rw [seq_mKs]
  have e0 : ∀ F : Sl × DEnv → Res (Ctl × DEnv), bnd (mK (.n f0) ρ) F = bnd (f0 ρ) fun p => F (Sl.ob false p.1, p.2) := fun F => by
    show bnd (bnd (f0 ρ) _) F = _
    cases f0 ρ <;> rfl
  rw [e0]
  refine Sim.bnd h0 fun x0 => ?_
  dsimp only
  rw [seq_mKs]
  have e1 : ∀ F : Sl × DEnv → Res (Ctl × DEnv), bnd (mK (.n f1) ρ) F = bnd (f1 ρ) fun p => F (Sl.ob false p.1, p.2) := fun F => by
    show bnd (bnd (f1 ρ) _) F = _
    cases f1 ρ <;> rfl
  rw [e1]
  refine Sim.bnd h1 fun x1 => ?_
  dsimp only
  rw [seq_mKs]
  have e2 : ∀ F : Sl × DEnv → Res (Ctl × DEnv), bnd (mK (.n f2) ρ) F = bnd (f2 ρ) fun p => F (Sl.ob false p.1, p.2) := fun F => by
    show bnd (bnd (f2 ρ) _) F = _
    cases f2 ρ <;> rfl
  rw [e2]
  refine Sim.bnd h2 fun x2 => ?_
  dsimp only
  show Sim (if _ then _ else _) _ I
  rw [if_pos ⟨rfl, bltAll_ok hi⟩]
  exact hk x0 x1 x2
theorem sPar_nnl {i0 i1 i2 : Nat} {f0 : EvN} {f1 : EvN} {f2 : EvA} {q0 : Res (OB)} {q1 : Res (OB)} {q2 : Res (List D)} {k : OB → OB → List D → Res β} (h0 : Ev f0 ρ q0) (h1 : Ev f1 ρ q1) (h2 : Ev f2 ρ q2) (hk : ∀ x0 x1 x2, Sim (rest ((((ρ).set i2 (some (Sl.ob false (.lst x2)))).set i1 (some (Sl.ob false x1))).set i0 (some (Sl.ob false x0)))) (k x0 x1 x2) I) (hi : bltAll [i0, i1, i2] ρ.length = true := by rfl) :
    Sim (mSeq (mPar [i0, i1, i2] [.n f0, .n f1, .n (mNL f2)]) rest ρ) (bnd q0 fun x0 => bnd q1 fun x1 => bnd q2 fun x2 => k x0 x1 x2) I := by
  rw [seq_par]
  rw [seq_mKs]
  have e0 : ∀ F : Sl × DEnv → Res (Ctl × DEnv), bnd (mK (.n f0) ρ) F = bnd (f0 ρ) fun p => F (Sl.ob false p.1, p.2) := fun F => by
    show bnd (bnd (f0 ρ) _) F = _
    cases f0 ρ <;> rfl
  rw [e0]
  refine Sim.bnd h0 fun x0 => ?_
  dsimp only
  rw [seq_mKs]
  have e1 : ∀ F : Sl × DEnv → Res (Ctl × DEnv), bnd (mK (.n f1) ρ) F = bnd (f1 ρ) fun p => F (Sl.ob false p.1, p.2) := fun F => by
    show bnd (bnd (f1 ρ) _) F = _
    cases f1 ρ <;> rfl
  rw [e1]
  refine Sim.bnd h1 fun x1 => ?_
  dsimp only
  rw [seq_mKs]
  have e2 : ∀ F : Sl × DEnv → Res (Ctl × DEnv), bnd (mK (.n (mNL f2)) ρ) F = bnd (f2 ρ) fun p => F (Sl.ob false (.lst p.1), p.2) := fun F => by
    show bnd (bnd (bnd (f2 ρ) _) _) F = _
    cases f2 ρ <;> rfl
  rw [e2]
  refine Sim.bnd h2 fun x2 => ?_
  dsimp only
  show Sim (if _ then _ else _) _ I
  rw [if_pos ⟨rfl, bltAll_ok hi⟩]
  exact hk x0 x1 x2
theorem sPar_nld {i0 i1 i2 : Nat} {f0 : EvN} {f1 : EvA} {f2 : EvF} {q0 : Res (OB)} {q1 : Res (List D)} {q2 : Res (D)} {k : OB → List D → D → Res β} (h0 : Ev f0 ρ q0) (h1 : Ev f1 ρ q1) (h2 : Ev f2 ρ q2) (hk : ∀ x0 x1 x2, Sim (rest ((((ρ).set i2 (some (Sl.dat x2))).set i1 (some (Sl.ob false (.lst x1)))).set i0 (some (Sl.ob false x0)))) (k x0 x1 x2) I) (hi : bltAll [i0, i1, i2] ρ.length = true := by rfl) :
    Sim (mSeq (mPar [i0, i1, i2] [.n f0, .n (mNL f1), .d f2]) rest ρ) (bnd q0 fun x0 => bnd q1 fun x1 => bnd q2 fun x2 => k x0 x1 x2) I := by
  rw [seq_par]
  rw [seq_mKs]
  have e0 : ∀ F : Sl × DEnv → Res (Ctl × DEnv), bnd (mK (.n f0) ρ) F = bnd (f0 ρ) fun p => F (Sl.ob false p.1, p.2) := fun F => by
    show bnd (bnd (f0 ρ) _) F = _
    cases f0 ρ <;> rfl
  rw [e0]
  refine Sim.bnd h0 fun x0 => ?_
  dsimp only
  rw [seq_mKs]
  have e1 : ∀ F : Sl × DEnv → Res (Ctl × DEnv), bnd (mK (.n (mNL f1)) ρ) F = bnd (f1 ρ) fun p => F (Sl.ob false (.lst p.1), p.2) := fun F => by
    show bnd (bnd (bnd (f1 ρ) _) _) F = _
    cases f1 ρ <;> rfl
  rw [e1]
  refine Sim.bnd h1 fun x1 => ?_
  dsimp only
  rw [seq_mKs]
  have e2 : ∀ F : Sl × DEnv → Res (Ctl × DEnv), bnd (mK (.d f2) ρ) F = bnd (f2 ρ) fun p => F (Sl.dat p.1, p.2) := fun F => by
    show bnd (bnd (f2 ρ) _) F = _
    cases f2 ρ <;> rfl
  rw [e2]
  refine Sim.bnd h2 fun x2 => ?_
  dsimp only
  show Sim (if _ then _ else _) _ I
  rw [if_pos ⟨rfl, bltAll_ok hi⟩]
  exact hk x0 x1 x2
theorem sPar_nln {i0 i1 i2 : Nat} {f0 : EvN} {f1 : EvA} {f2 : EvN} {q0 : Res (OB)} {q1 : Res (List D)} {q2 : Res (OB)} {k : OB → List D → OB → Res β} (h0 : Ev f0 ρ q0) (h1 : Ev f1 ρ q1) (h2 : Ev f2 ρ q2) (hk : ∀ x0 x1 x2, Sim (rest ((((ρ).set i2 (some (Sl.ob false x2))).set i1 (some (Sl.ob false (.lst x1)))).set i0 (some (Sl.ob false x0)))) (k x0 x1 x2) I) (hi : bltAll [i0, i1, i2] ρ.length = true := by rfl) :
    Sim (mSeq (mPar [i0, i1, i2] [.n f0, .n (mNL f1), .n f2]) rest ρ) (bnd q0 fun x0 => bnd q1 fun x1 => bnd q2 fun x2 => k x0 x1 x2) I := by
  rw [seq_par]
  rw [seq_mKs]
  have e0 : ∀ F : Sl × DEnv → Res (Ctl × DEnv), bnd (mK (.n f0) ρ) F = bnd (f0 ρ) fun p => F (Sl.ob false p.1, p.2) := fun F => by
    show bnd (bnd (f0 ρ) _) F = _
    cases f0 ρ <;> rfl
  rw [e0]
  refine Sim.bnd h0 fun x0 => ?_
  dsimp only
  rw [seq_mKs]
  have e1 : ∀ F : Sl × DEnv → Res (Ctl × DEnv), bnd (mK (.n (mNL f1)) ρ) F = bnd (f1 ρ) fun p => F (Sl.ob false (.lst p.1), p.2) := fun F => by
    show bnd (bnd (bnd (f1 ρ) _) _) F = _
    cases f1 ρ <;> rfl
  rw [e1]
  refine Sim.bnd h1 fun x1 => ?_
  dsimp only
  rw [seq_mKs]
  have e2 : ∀ F : Sl × DEnv → Res (Ctl × DEnv), bnd (mK (.n f2) ρ) F = bnd (f2 ρ) fun p => F (Sl.ob false p.1, p.2) := fun F => by
    show bnd (bnd (f2 ρ) _) F = _
    cases f2 ρ <;> rfl
  rw [e2]
  refine Sim.bnd h2 fun x2 => ?_
  dsimp only
  show Sim (if _ then _ else _) _ I
  rw [if_pos ⟨rfl, bltAll_ok hi⟩]
  exact hk x0 x1 x2
theorem sPar_nll {i0 i1 i2 : Nat} {f0 : EvN} {f1 : EvA} {f2 : EvA} {q0 : Res (OB)} {q1 : Res (List D)} {q2 : Res (List D)} {k : OB → List D → List D → Res β} (h0 : Ev f0 ρ q0) (h1 : Ev f1 ρ q1) (h2 : Ev f2 ρ q2) (hk : ∀ x0 x1 x2, Sim (rest ((((ρ).set i2 (some (Sl.ob false (.lst x2)))).set i1 (some (Sl.ob false (.lst x1)))).set i0 (some (Sl.ob false x0)))) (k x0 x1 x2) I) (hi : bltAll [i0, i1, i2] ρ.length = true := by rfl) :
    Sim (mSeq (mPar [i0, i1, i2] [.n f0, .n (mNL f1), .n (mNL f2)]) rest ρ) (bnd q0 fun x0 => bnd q1 fun x1 => bnd q2 fun x2 => k x0 x1 x2) I := by
  rw [seq_par]
  rw [seq_mKs]
  have e0 : ∀ F : Sl × DEnv → Res (Ctl × DEnv), bnd (mK (.n f0) ρ) F = bnd (f0 ρ) fun p => F (Sl.ob false p.1, p.2) := fun F => by
    show bnd (bnd (f0 ρ) _) F = _
    cases f0 ρ <;> rfl
  rw [e0]
  refine Sim.bnd h0 fun x0 => ?_
  dsimp only
  rw [seq_mKs]
  have e1 : ∀ F : Sl × DEnv → Res (Ctl × DEnv), bnd (mK (.n (mNL f1)) ρ) F = bnd (f1 ρ) fun p => F (Sl.ob false (.lst p.1), p.2) := fun F => by
    show bnd (bnd (bnd (f1 ρ) _) _) F = _
    cases f1 ρ <;> rfl
  rw [e1]
  refine Sim.bnd h1 fun x1 => ?_
  dsimp only
  rw [seq_mKs]
  have e2 : ∀ F : Sl × DEnv → Res (Ctl × DEnv), bnd (mK (.n (mNL f2)) ρ) F = bnd (f2 ρ) fun p => F (Sl.ob false (.lst p.1), p.2) := fun F => by
    show bnd (bnd (bnd (f2 ρ) _) _) F = _
    cases f2 ρ <;> rfl
  rw [e2]
  refine Sim.bnd h2 fun x2 => ?_
  dsimp only
  show Sim (if _ then _ else _) _ I
  rw [if_pos ⟨rfl, bltAll_ok hi⟩]
  exact hk x0 x1 x2
theorem sPar_ldd {i0 i1 i2 : Nat} {f0 : EvA} {f1 : EvF} {f2 : EvF} {q0 : Res (List D)} {q1 : Res (D)} {q2 : Res (D)} {k : List D → D → D → Res β} (h0 : Ev f0 ρ q0) (h1 : Ev f1 ρ q1) (h2 : Ev f2 ρ q2) (hk : ∀ x0 x1 x2, Sim (rest ((((ρ).set i2 (some (Sl.dat x2))).set i1 (some (Sl.dat x1))).set i0 (some (Sl.ob false (.lst x0))))) (k x0 x1 x2) I) (hi : bltAll [i0, i1, i2] ρ.length = true := by rfl) :
    Sim (mSeq (mPar [i0, i1, i2] [.n (mNL f0), .d f1, .d f2]) rest ρ) (bnd q0 fun x0 => bnd q1 fun x1 => bnd q2 fun x2 => k x0 x1 x2) I := by
  rw [seq_par]
  rw [seq_mKs]
  have e0 : ∀ F : Sl × DEnv → Res (Ctl × DEnv), bnd (mK (.n (mNL f0)) ρ) F = bnd (f0 ρ) fun p => F (Sl.ob false (.lst p.1), p.2) := fun F => by
    show bnd (bnd (bnd (f0 ρ) _) _) F = _
    cases f0 ρ <;> rfl
  rw [e0]
  refine Sim.bnd h0 fun x0 => ?_
  dsimp only
  rw [seq_mKs]
  have e1 : ∀ F : Sl × DEnv → Res (Ctl × DEnv), bnd (mK (.d f1) ρ) F = bnd (f1 ρ) fun p => F (Sl.dat p.1, p.2) := fun F => by
    show bnd (bnd (f1 ρ) _) F = _
    cases f1 ρ <;> rfl
  rw [e1]
  refine Sim.bnd h1 fun x1 => ?_
  dsimp only
  rw [seq_mKs]
  have e2 : ∀ F : Sl × DEnv → Res (Ctl × DEnv), bnd (mK (.d f2) ρ) F = bnd (f2 ρ) fun p => F (Sl.dat p.1, p.2) := fun F => by
    show bnd (bnd (f2 ρ) _) F = _
    cases f2 ρ <;> rfl
  rw [e2]
  refine Sim.bnd h2 fun x2 => ?_
  dsimp only
  show Sim (if _ then _ else _) _ I
  rw [if_pos ⟨rfl, bltAll_ok hi⟩]
  exact hk x0 x1 x2
theorem sPar_ldn {i0 i1 i2 : Nat} {f0 : EvA} {f1 : EvF} {f2 : EvN} {q0 : Res (List D)} {q1 : Res (D)} {q2 : Res (OB)} {k : List D → D → OB → Res β} (h0 : Ev f0 ρ q0) (h1 : Ev f1 ρ q1) (h2 : Ev f2 ρ q2) (hk : ∀ x0 x1 x2, Sim (rest ((((ρ).set i2 (some (Sl.ob false x2))).set i1 (some (Sl.dat x1))).set i0 (some (Sl.ob false (.lst x0))))) (k x0 x1 x2) I) (hi : bltAll [i0, i1, i2] ρ.length = true := by rfl) :
    Sim (mSeq (mPar [i0, i1, i2] [.n (mNL f0), .d f1, .n f2]) rest ρ) (bnd q0 fun x0 => bnd q1 fun x1 => bnd q2 fun x2 => k x0 x1 x2) I := by
  rw [seq_par]
  rw [seq_mKs]
  have e0 : ∀ F : Sl × DEnv → Res (Ctl × DEnv), bnd (mK (.n (mNL f0)) ρ) F = bnd (f0 ρ) fun p => F (Sl.ob false (.lst p.1), p.2) := fun F => by
    show bnd (bnd (bnd (f0 ρ) _) _) F = _
    cases f0 ρ <;> rfl
  rw [e0]
  refine Sim.bnd h0 fun x0 => ?_
  dsimp only
  rw [seq_mKs]
  have e1 : ∀ F : Sl × DEnv → Res (Ctl × DEnv), bnd (mK (.d f1) ρ) F = bnd (f1 ρ) fun p => F (Sl.dat p.1, p.2) := fun F => by
    show bnd (bnd (f1 ρ) _) F = _
    cases f1 ρ <;> rfl
  rw [e1]
  refine Sim.bnd h1 fun x1 => ?_
  dsimp only
  rw [seq_mKs]
  have e2 : ∀ F : Sl × DEnv → Res (Ctl × DEnv), bnd (mK (.n f2) ρ) F = bnd (f2 ρ) fun p => F (Sl.ob false p.1, p.2) := fun F => by
    show bnd (bnd (f2 ρ) _) F = _
    cases f2 ρ <;> rfl
  rw [e2]
  refine Sim.bnd h2 fun x2 => ?_
  dsimp only
  show Sim (if _ then _ else _) _ I
  rw [if_pos ⟨rfl, bltAll_ok hi⟩]
  exact hk x0 x1 x2
theorem sPar_ldl {i0 i1 i2 : Nat} {f0 : EvA} {f1 : EvF} {f2 : EvA} {q0 : Res (List D)} {q1 : Res (D)} {q2 : Res (List D)} {k : List D → D → List D → Res β} (h0 : Ev f0 ρ q0) (h1 : Ev f1 ρ q1) (h2 : Ev f2 ρ q2) (hk : ∀ x0 x1 x2, Sim (rest ((((ρ).set i2 (some (Sl.ob false (.lst x2)))).set i1 (some (Sl.dat x1))).set i0 (some (Sl.ob false (.lst x0))))) (k x0 x1 x2) I) (hi : bltAll [i0, i1, i2] ρ.length = true := by rfl) :
    Sim (mSeq (mPar [i0, i1, i2] [.n (mNL f0), .d f1, .n (mNL f2)]) rest ρ) (bnd q0 fun x0 => bnd q1 fun x1 => bnd q2 fun x2 => k x0 x1 x2) I := by
  rw [seq_par]
  rw [seq_mKs]
  have e0 : ∀ F : Sl × DEnv → Res (Ctl × DEnv), bnd (mK (.n (mNL f0)) ρ) F = bnd (f0 ρ) fun p => F (Sl.ob false (.lst p.1), p.2) := fun F => by
    show bnd (bnd (bnd (f0 ρ) _) _) F = _
    cases f0 ρ <;> rfl
  rw [e0]
  refine Sim.bnd h0 fun x0 => ?_
  dsimp only
  rw [seq_mKs]
  have e1 : ∀ F : Sl × DEnv → Res (Ctl × DEnv), bnd (mK (.d f1) ρ) F = bnd (f1 ρ) fun p => F (Sl.dat p.1, p.2) := fun F => by
    show bnd (bnd (f1 ρ) _) F = _
    cases f1 ρ <;> rfl
  rw [e1]
  refine Sim.bnd h1 fun x1 => ?_
  dsimp only
  rw [seq_mKs]
  have e2 : ∀ F : Sl × DEnv → Res (Ctl × DEnv), bnd (mK (.n (mNL f2)) ρ) F = bnd (f2 ρ) fun p => F (Sl.ob false (.lst p.1), p.2) := fun F => by
    show bnd (bnd (bnd (f2 ρ) _) _) F = _
    cases f2 ρ <;> rfl
  rw [e2]
  refine Sim.bnd h2 fun x2 => ?_
  dsimp only
  show Sim (if _ then _ else _) _ I
  rw [if_pos ⟨rfl, bltAll_ok hi⟩]
  exact hk x0 x1 x2
theorem sPar_lnd {i0 i1 i2 : Nat} {f0 : EvA} {f1 : EvN} {f2 : EvF} {q0 : Res (List D)} {q1 : Res (OB)} {q2 : Res (D)} {k : List D → OB → D → Res β} (h0 : Ev f0 ρ q0) (h1 : Ev f1 ρ q1) (h2 : Ev f2 ρ q2) (hk : ∀ x0 x1 x2, Sim (rest ((((ρ).set i2 (some (Sl.dat x2))).set i1 (some (Sl.ob false x1))).set i0 (some (Sl.ob false (.lst x0))))) (k x0 x1 x2) I) (hi : bltAll [i0, i1, i2] ρ.length = true := by rfl) :
    Sim (mSeq (mPar [i0, i1, i2] [.n (mNL f0), .n f1, .d f2]) rest ρ) (bnd q0 fun x0 => bnd q1 fun x1 => bnd q2 fun x2 => k x0 x1 x2) I := by
  rw [seq_par]
  rw [seq_mKs]
  have e0 : ∀ F : Sl × DEnv → Res (Ctl × DEnv), bnd (mK (.n (mNL f0)) ρ) F = bnd (f0 ρ) fun p => F (Sl.ob false (.lst p.1), p.2) := fun F => by
    show bnd (bnd (bnd (f0 ρ) _) _) F = _
    cases f0 ρ <;> rfl
  rw [e0]
  refine Sim.bnd h0 fun x0 => ?_
  dsimp only
  rw [seq_mKs]
  have e1 : ∀ F : Sl × DEnv → Res (Ctl × DEnv), bnd (mK (.n f1) ρ) F = bnd (f1 ρ) fun p => F (Sl.ob false p.1, p.2) := fun F => by
    show bnd (bnd (f1 ρ) _) F = _
    cases f1 ρ <;> rfl
  rw [e1]
  refine Sim.bnd h1 fun x1 => ?_
  dsimp only
  rw [seq_mKs]
  have e2 : ∀ F : Sl × DEnv → Res (Ctl × DEnv), bnd (mK (.d f2) ρ) F = bnd (f2 ρ) fun p => F (Sl.dat p.1, p.2) := fun F => by
    show bnd (bnd (f2 ρ) _) F = _
    cases f2 ρ <;> rfl
  rw [e2]
  refine Sim.bnd h2 fun x2 => ?_
  dsimp only
  show Sim (if _ then _ else _) _ I
  rw [if_pos ⟨rfl, bltAll_ok hi⟩]
  exact hk x0 x1 x2
theorem sPar_lnn {i0 i1 i2 : Nat} {f0 : EvA} {f1 : EvN} {f2 : EvN} {q0 : Res (List D)} {q1 : Res (OB)} {q2 : Res (OB)} {k : List D → OB → OB → Res β} (h0 : Ev f0 ρ q0) (h1 : Ev f1 ρ q1) (h2 : Ev f2 ρ q2) (hk : ∀ x0 x1 x2, Sim (rest ((((ρ).set i2 (some (Sl.ob false x2))).set i1 (some (Sl.ob false x1))).set i0 (some (Sl.ob false (.lst x0))))) (k x0 x1 x2) I) (hi : bltAll [i0, i1, i2] ρ.length = true := by rfl) :
    Sim (mSeq (mPar [i0, i1, i2] [.n (mNL f0), .n f1, .n f2]) rest ρ) (bnd q0 fun x0 => bnd q1 fun x1 => bnd q2 fun x2 => k x0 x1 x2) I := by
  rw [seq_par]
  rw [seq_mKs]
  have e0 : ∀ F : Sl × DEnv → Res (Ctl × DEnv), bnd (mK (.n (mNL f0)) ρ) F = bnd (f0 ρ) fun p => F (Sl.ob false (.lst p.1), p.2) := fun F => by
    show bnd (bnd (bnd (f0 ρ) _) _) F = _
    cases f0 ρ <;> rfl
  rw [e0]
  refine Sim.bnd h0 fun x0 => ?_
  dsimp only
  rw [seq_mKs]
  have e1 : ∀ F : Sl × DEnv → Res (Ctl × DEnv), bnd (mK (.n f1) ρ) F = bnd (f1 ρ) fun p => F (Sl.ob false p.1, p.2) := fun F => by
    show bnd (bnd (f1 ρ) _) F = _
    cases f1 ρ <;> rfl
  rw [e1]
  refine Sim.bnd h1 fun x1 => ?_
  dsimp only
  rw [seq_mKs]
  have e2 : ∀ F : Sl × DEnv → Res (Ctl × DEnv), bnd (mK (.n f2) ρ) F = bnd (f2 ρ) fun p => F (Sl.ob false p.1, p.2) := fun F => by
    show bnd (bnd (f2 ρ) _) F = _
    cases f2 ρ <;> rfl
  rw [e2]
  refine Sim.bnd h2 fun x2 => ?_
  dsimp only
  show Sim (if _ then _ else _) _ I
  rw [if_pos ⟨rfl, bltAll_ok hi⟩]
  exact hk x0 x1 x2
theorem sPar_lnl {i0 i1 i2 : Nat} {f0 : EvA} {f1 : EvN} {f2 : EvA} {q0 : Res (List D)} {q1 : Res (OB)} {q2 : Res (List D)} {k : List D → OB → List D → Res β} (h0 : Ev f0 ρ q0) (h1 : Ev f1 ρ q1) (h2 : Ev f2 ρ q2) (hk : ∀ x0 x1 x2, Sim (rest ((((ρ).set i2 (some (Sl.ob false (.lst x2)))).set i1 (some (Sl.ob false x1))).set i0 (some (Sl.ob false (.lst x0))))) (k x0 x1 x2) I) (hi : bltAll [i0, i1, i2] ρ.length = true := by rfl) :
    Sim (mSeq (mPar [i0, i1, i2] [.n (mNL f0), .n f1, .n (mNL f2)]) rest ρ) (bnd q0 fun x0 => bnd q1 fun x1 => bnd q2 fun x2 => k x0 x1 x2) I := by
  rw [seq_par]
  rw [seq_mKs]
  have e0 : ∀ F : Sl × DEnv → Res (Ctl × DEnv), bnd (mK (.n (mNL f0)) ρ) F = bnd (f0 ρ) fun p => F (Sl.ob false (.lst p.1), p.2) := fun F => by
    show bnd (bnd (bnd (f0 ρ) _) _) F = _
    cases f0 ρ <;> rfl
  rw [e0]
  refine Sim.bnd h0 fun x0 => ?_
  dsimp only
  rw [seq_mKs]
  have e1 : ∀ F : Sl × DEnv → Res (Ctl × DEnv), bnd (mK (.n f1) ρ) F = bnd (f1 ρ) fun p => F (Sl.ob false p.1, p.2) := fun F => by
    show bnd (bnd (f1 ρ) _) F = _
    cases f1 ρ <;> rfl
  rw [e1]
  refine Sim.bnd h1 fun x1 => ?_
  dsimp only
  rw [seq_mKs]
  have e2 : ∀ F : Sl × DEnv → Res (Ctl × DEnv), bnd (mK (.n (mNL f2)) ρ) F = bnd (f2 ρ) fun p => F (Sl.ob false (.lst p.1), p.2) := fun F => by
    show bnd (bnd (bnd (f2 ρ) _) _) F = _
    cases f2 ρ <;> rfl
  rw [e2]
  refine Sim.bnd h2 fun x2 => ?_
  dsimp only
  show Sim (if _ then _ else _) _ I
  rw [if_pos ⟨rfl, bltAll_ok hi⟩]
  exact hk x0 x1 x2
theorem sPar_lld {i0 i1 i2 : Nat} {f0 : EvA} {f1 : EvA} {f2 : EvF} {q0 : Res (List D)} {q1 : Res (List D)} {q2 : Res (D)} {k : List D → List D → D → Res β} (h0 : Ev f0 ρ q0) (h1 : Ev f1 ρ q1) (h2 : Ev f2 ρ q2) (hk : ∀ x0 x1 x2, Sim (rest ((((ρ).set i2 (some (Sl.dat x2))).set i1 (some (Sl.ob false (.lst x1)))).set i0 (some (Sl.ob false (.lst x0))))) (k x0 x1 x2) I) (hi : bltAll [i0, i1, i2] ρ.length = true := by rfl) :
    Sim (mSeq (mPar [i0, i1, i2] [.n (mNL f0), .n (mNL f1), .d f2]) rest ρ) (bnd q0 fun x0 => bnd q1 fun x1 => bnd q2 fun x2 => k x0 x1 x2) I := by
  rw [seq_par]
  rw [seq_mKs]
  have e0 : ∀ F : Sl × DEnv → Res (Ctl × DEnv), bnd (mK (.n (mNL f0)) ρ) F = bnd (f0 ρ) fun p => F (Sl.ob false (.lst p.1), p.2) := fun F => by
    show bnd (bnd (bnd (f0 ρ) _) _) F = _
    cases f0 ρ <;> rfl
  rw [e0]
  refine Sim.bnd h0 fun x0 => ?_
  dsimp only
  rw [seq_mKs]
  have e1 : ∀ F : Sl × DEnv → Res (Ctl × DEnv), bnd (mK (.n (mNL f1)) ρ) F = bnd (f1 ρ) fun p => F (Sl.ob false (.lst p.1), p.2) := fun F => by
    show bnd (bnd (bnd (f1 ρ) _) _) F = _
    cases f1 ρ <;> rfl
  rw [e1]
  refine Sim.bnd h1 fun x1 => ?_
  dsimp only
  rw [seq_mKs]
  have e2 : ∀ F : Sl × DEnv → Res (Ctl × DEnv), bnd (mK (.d f2) ρ) F = bnd (f2 ρ) fun p => F (Sl.dat p.1, p.2) := fun F => by
    show bnd (bnd (f2 ρ) _) F = _
    cases f2 ρ <;> rfl
  rw [e2]
  refine Sim.bnd h2 fun x2 => ?_
  dsimp only
  show Sim (if _ then _ else _) _ I
  rw [if_pos ⟨rfl, bltAll_ok hi⟩]
  exact hk x0 x1 x2
theorem sPar_lln {i0 i1 i2 : Nat} {f0 : EvA} {f1 : EvA} {f2 : EvN} {q0 : Res (List D)} {q1 : Res (List D)} {q2 : Res (OB)} {k : List D → List D → OB → Res β} (h0 : Ev f0 ρ q0) (h1 : Ev f1 ρ q1) (h2 : Ev f2 ρ q2) (hk : ∀ x0 x1 x2, Sim (rest ((((ρ).set i2 (some (Sl.ob false x2))).set i1 (some (Sl.ob false (.lst x1)))).set i0 (some (Sl.ob false (.lst x0))))) (k x0 x1 x2) I) (hi : bltAll [i0, i1, i2] ρ.length = true := by rfl) :
    Sim (mSeq (mPar [i0, i1, i2] [.n (mNL f0), .n (mNL f1), .n f2]) rest ρ) (bnd q0 fun x0 => bnd q1 fun x1 => bnd q2 fun x2 => k x0 x1 x2) I := by
  rw [seq_par]
  rw [seq_mKs]
  have e0 : ∀ F : Sl × DEnv → Res (Ctl × DEnv), bnd (mK (.n (mNL f0)) ρ) F = bnd (f0 ρ) fun p => F (Sl.ob false (.lst p.1), p.2) := fun F => by
    show bnd (bnd (bnd (f0 ρ) _) _) F = _
    cases f0 ρ <;> rfl
  rw [e0]
  refine Sim.bnd h0 fun x0 => ?_
  dsimp only
  rw [seq_mKs]
  have e1 : ∀ F : Sl × DEnv → Res (Ctl × DEnv), bnd (mK (.n (mNL f1)) ρ) F = bnd (f1 ρ) fun p => F (Sl.ob false (.lst p.1), p.2) := fun F => by
    show bnd (bnd (bnd (f1 ρ) _) _) F = _
    cases f1 ρ <;> rfl
  rw [e1]
  refine Sim.bnd h1 fun x1 => ?_
  dsimp only
  rw [seq_mKs]
  have e2 : ∀ F : Sl × DEnv → Res (Ctl × DEnv), bnd (mK (.n f2) ρ) F = bnd (f2 ρ) fun p => F (Sl.ob false p.1, p.2) := fun F => by
    show bnd (bnd (f2 ρ) _) F = _
    cases f2 ρ <;> rfl
  rw [e2]
  refine Sim.bnd h2 fun x2 => ?_
  dsimp only
  show Sim (if _ then _ else _) _ I
  rw [if_pos ⟨rfl, bltAll_ok hi⟩]
  exact hk x0 x1 x2
theorem sPar_lll {i0 i1 i2 : Nat} {f0 : EvA} {f1 : EvA} {f2 : EvA} {q0 : Res (List D)} {q1 : Res (List D)} {q2 : Res (List D)} {k : List D → List D → List D → Res β} (h0 : Ev f0 ρ q0) (h1 : Ev f1 ρ q1) (h2 : Ev f2 ρ q2) (hk : ∀ x0 x1 x2, Sim (rest ((((ρ).set i2 (some (Sl.ob false (.lst x2)))).set i1 (some (Sl.ob false (.lst x1)))).set i0 (some (Sl.ob false (.lst x0))))) (k x0 x1 x2) I) (hi : bltAll [i0, i1, i2] ρ.length = true := by rfl) :
    Sim (mSeq (mPar [i0, i1, i2] [.n (mNL f0), .n (mNL f1), .n (mNL f2)]) rest ρ) (bnd q0 fun x0 => bnd q1 fun x1 => bnd q2 fun x2 => k x0 x1 x2) I := by
  rw [seq_par]
  rw [seq_mKs]
  have e0 : ∀ F : Sl × DEnv → Res (Ctl × DEnv), bnd (mK (.n (mNL f0)) ρ) F = bnd (f0 ρ) fun p => F (Sl.ob false (.lst p.1), p.2) := fun F => by
    show bnd (bnd (bnd (f0 ρ) _) _) F = _
    cases f0 ρ <;> rfl
  rw [e0]
  refine Sim.bnd h0 fun x0 => ?_
  dsimp only
  rw [seq_mKs]
  have e1 : ∀ F : Sl × DEnv → Res (Ctl × DEnv), bnd (mK (.n (mNL f1)) ρ) F = bnd (f1 ρ) fun p => F (Sl.ob false (.lst p.1), p.2) := fun F => by
    show bnd (bnd (bnd (f1 ρ) _) _) F = _
    cases f1 ρ <;> rfl
  rw [e1]
  refine Sim.bnd h1 fun x1 => ?_
  dsimp only
  rw [seq_mKs]
  have e2 : ∀ F : Sl × DEnv → Res (Ctl × DEnv), bnd (mK (.n (mNL f2)) ρ) F = bnd (f2 ρ) fun p => F (Sl.ob false (.lst p.1), p.2) := fun F => by
    show bnd (bnd (bnd (f2 ρ) _) _) F = _
    cases f2 ρ <;> rfl
  rw [e2]
  refine Sim.bnd h2 fun x2 => ?_
  dsimp only
  show Sim (if _ then _ else _) _ I
  rw [if_pos ⟨rfl, bltAll_ok hi⟩]
  exact hk x0 x1 x2
theorem sPar_dddd {i0 i1 i2 i3 : Nat} {f0 : EvF} {f1 : EvF} {f2 : EvF} {f3 : EvF} {q0 : Res (D)} {q1 : Res (D)} {q2 : Res (D)} {q3 : Res (D)} {k : D → D → D → D → Res β} (h0 : Ev f0 ρ q0) (h1 : Ev f1 ρ q1) (h2 : Ev f2 ρ q2) (h3 : Ev f3 ρ q3) (hk : ∀ x0 x1 x2 x3, Sim (rest (((((ρ).set i3 (some (Sl.dat x3))).set i2 (some (Sl.dat x2))).set i1 (some (Sl.dat x1))).set i0 (some (Sl.dat x0)))) (k x0 x1 x2 x3) I) (hi : bltAll [i0, i1, i2, i3] ρ.length = true := by rfl) :
    Sim (mSeq (mPar [i0, i1, i2, i3] [.d f0, .d f1, .d f2, .d f3]) rest ρ) (bnd q0 fun x0 => bnd q1 fun x1 => bnd q2 fun x2 => bnd q3 fun x3 => k x0 x1 x2 x3) I := by
  rw [seq_par]
  rw [seq_mKs]
  have e0 : ∀ F : Sl × DEnv → Res (Ctl × DEnv), bnd (mK (.d f0) ρ) F = bnd (f0 ρ) fun p => F (Sl.dat p.1, p.2) := fun F => by
    show bnd (bnd (f0 ρ) _) F = _
    cases f0 ρ <;> rfl
  rw [e0]
  refine Sim.bnd h0 fun x0 => ?_
  dsimp only
  rw [seq_mKs]
  have e1 : ∀ F : Sl × DEnv → Res (Ctl × DEnv), bnd (mK (.d f1) ρ) F = bnd (f1 ρ) fun p => F (Sl.dat p.1, p.2) := fun F => by
    show bnd (bnd (f1 ρ) _) F = _
    cases f1 ρ <;> rfl
  rw [e1]
  refine Sim.bnd h1 fun x1 => ?_
  dsimp only
  rw [seq_mKs]
  have e2 : ∀ F : Sl × DEnv → Res (Ctl × DEnv), bnd (mK (.d f2) ρ) F = bnd (f2 ρ) fun p => F (Sl.dat p.1, p.2) := fun F => by
    show bnd (bnd (f2 ρ) _) F = _
    cases f2 ρ <;> rfl
  rw [e2]
  refine Sim.bnd h2 fun x2 => ?_
  dsimp only
  rw [seq_mKs]
  have e3 : ∀ F : Sl × DEnv → Res (Ctl × DEnv), bnd (mK (.d f3) ρ) F = bnd (f3 ρ) fun p => F (Sl.dat p.1, p.2) := fun F => by
    show bnd (bnd (f3 ρ) _) F = _
    cases f3 ρ <;> rfl
  rw [e3]
  refine Sim.bnd h3 fun x3 => ?_
  dsimp only
  show Sim (if _ then _ else _) _ I
  rw [if_pos ⟨rfl, bltAll_ok hi⟩]
  exact hk x0 x1 x2 x3
theorem sPar_dddl {i0 i1 i2 i3 : Nat} {f0 : EvF} {f1 : EvF} {f2 : EvF} {f3 : EvA} {q0 : Res (D)} {q1 : Res (D)} {q2 : Res (D)} {q3 : Res (List D)} {k : D → D → D → List D → Res β} (h0 : Ev f0 ρ q0) (h1 : Ev f1 ρ q1) (h2 : Ev f2 ρ q2) (h3 : Ev f3 ρ q3) (hk : ∀ x0 x1 x2 x3, Sim (rest (((((ρ).set i3 (some (Sl.ob false (.lst x3)))).set i2 (some (Sl.dat x2))).set i1 (some (Sl.dat x1))).set i0 (some (Sl.dat x0)))) (k x0 x1 x2 x3) I) (hi : bltAll [i0, i1, i2, i3] ρ.length = true := by rfl) :
    Sim (mSeq (mPar [i0, i1, i2, i3] [.d f0, .d f1, .d f2, .n (mNL f3)]) rest ρ) (bnd q0 fun x0 => bnd q1 fun x1 => bnd q2 fun x2 => bnd q3 fun x3 => k x0 x1 x2 x3) I := by
  rw [seq_par]
  rw [seq_mKs]
  have e0 : ∀ F : Sl × DEnv → Res (Ctl × DEnv), bnd (mK (.d f0) ρ) F = bnd (f0 ρ) fun p => F (Sl.dat p.1, p.2) := fun F => by
    show bnd (bnd (f0 ρ) _) F = _
    cases f0 ρ <;> rfl
  rw [e0]
  refine Sim.bnd h0 fun x0 => ?_
  dsimp only
  rw [seq_mKs]
  have e1 : ∀ F : Sl × DEnv → Res (Ctl × DEnv), bnd (mK (.d f1) ρ) F = bnd (f1 ρ) fun p => F (Sl.dat p.1, p.2) := fun F => by
    show bnd (bnd (f1 ρ) _) F = _
    cases f1 ρ <;> rfl
  rw [e1]
  refine Sim.bnd h1 fun x1 => ?_
  dsimp only
  rw [seq_mKs]
  have e2 : ∀ F : Sl × DEnv → Res (Ctl × DEnv), bnd (mK (.d f2) ρ) F = bnd (f2 ρ) fun p => F (Sl.dat p.1, p.2) := fun F => by
    show bnd (bnd (f2 ρ) _) F = _
    cases f2 ρ <;> rfl
  rw [e2]
  refine Sim.bnd h2 fun x2 => ?_
  dsimp only
  rw [seq_mKs]
  have e3 : ∀ F : Sl × DEnv → Res (Ctl × DEnv), bnd (mK (.n (mNL f3)) ρ) F = bnd (f3 ρ) fun p => F (Sl.ob false (.lst p.1), p.2) := fun F => by
    show bnd (bnd (bnd (f3 ρ) _) _) F = _
    cases f3 ρ <;> rfl
  rw [e3]
  refine Sim.bnd h3 fun x3 => ?_
  dsimp only
  show Sim (if _ then _ else _) _ I
  rw [if_pos ⟨rfl, bltAll_ok hi⟩]
  exact hk x0 x1 x2 x3
theorem sPar_ddld {i0 i1 i2 i3 : Nat} {f0 : EvF} {f1 : EvF} {f2 : EvA} {f3 : EvF} {q0 : Res (D)} {q1 : Res (D)} {q2 : Res (List D)} {q3 : Res (D)} {k : D → D → List D → D → Res β} (h0 : Ev f0 ρ q0) (h1 : Ev f1 ρ q1) (h2 : Ev f2 ρ q2) (h3 : Ev f3 ρ q3) (hk : ∀ x0 x1 x2 x3, Sim (rest (((((ρ).set i3 (some (Sl.dat x3))).set i2 (some (Sl.ob false (.lst x2)))).set i1 (some (Sl.dat x1))).set i0 (some (Sl.dat x0)))) (k x0 x1 x2 x3) I) (hi : bltAll [i0, i1, i2, i3] ρ.length = true := by rfl) :
    Sim (mSeq (mPar [i0, i1, i2, i3] [.d f0, .d f1, .n (mNL f2), .d f3]) rest ρ) (bnd q0 fun x0 => bnd q1 fun x1 => bnd q2 fun x2 => bnd q3 fun x3 => k x0 x1 x2 x3) I := by
  rw [seq_par]
  rw [seq_mKs]
  have e0 : ∀ F : Sl × DEnv → Res (Ctl × DEnv), bnd (mK (.d f0) ρ) F = bnd (f0 ρ) fun p => F (Sl.dat p.1, p.2) := fun F => by
    show bnd (bnd (f0 ρ) _) F = _
    cases f0 ρ <;> rfl
  rw [e0]
  refine Sim.bnd h0 fun x0 => ?_
  dsimp only
  rw [seq_mKs]
  have e1 : ∀ F : Sl × DEnv → Res (Ctl × DEnv), bnd (mK (.d f1) ρ) F = bnd (f1 ρ) fun p => F (Sl.dat p.1, p.2) := fun F => by
    show bnd (bnd (f1 ρ) _) F = _
    cases f1 ρ <;> rfl
  rw [e1]
  refine Sim.bnd h1 fun x1 => ?_
  dsimp only
  rw [seq_mKs]
  have e2 : ∀ F : Sl × DEnv → Res (Ctl × DEnv), bnd (mK (.n (mNL f2)) ρ) F = bnd (f2 ρ) fun p => F (Sl.ob false (.lst p.1), p.2) := fun F => by
    show bnd (bnd (bnd (f2 ρ) _) _) F = _
    cases f2 ρ <;> rfl
  rw [e2]
  refine Sim.bnd h2 fun x2 => ?_
  dsimp only
  rw [seq_mKs]
  have e3 : ∀ F : Sl × DEnv → Res (Ctl × DEnv), bnd (mK (.d f3) ρ) F = bnd (f3 ρ) fun p => F (Sl.dat p.1, p.2) := fun F => by
    show bnd (bnd (f3 ρ) _) F = _
    cases f3 ρ <;> rfl
  rw [e3]
  refine Sim.bnd h3 fun x3 => ?_
  dsimp only
  show Sim (if _ then _ else _) _ I
  rw [if_pos ⟨rfl, bltAll_ok hi⟩]
  exact hk x0 x1 x2 x3
theorem sPar_ddll {i0 i1 i2 i3 : Nat} {f0 : EvF} {f1 : EvF} {f2 : EvA} {f3 : EvA} {q0 : Res (D)} {q1 : Res (D)} {q2 : Res (List D)} {q3 : Res (List D)} {k : D → D → List D → List D → Res β} (h0 : Ev f0 ρ q0) (h1 : Ev f1 ρ q1) (h2 : Ev f2 ρ q2) (h3 : Ev f3 ρ q3) (hk : ∀ x0 x1 x2 x3, Sim (rest (((((ρ).set i3 (some (Sl.ob false (.lst x3)))).set i2 (some (Sl.ob false (.lst x2)))).set i1 (some (Sl.dat x1))).set i0 (some (Sl.dat x0)))) (k x0 x1 x2 x3) I) (hi : bltAll [i0, i1, i2, i3] ρ.length = true := by rfl) :
    Sim (mSeq (mPar [i0, i1, i2, i3] [.d f0, .d f1, .n (mNL f2), .n (mNL f3)]) rest ρ) (bnd q0 fun x0 => bnd q1 fun x1 => bnd q2 fun x2 => bnd q3 fun x3 => k x0 x1 x2 x3) I := by
  rw [seq_par]
  rw [seq_mKs]
  have e0 : ∀ F : Sl × DEnv → Res (Ctl × DEnv), bnd (mK (.d f0) ρ) F = bnd (f0 ρ) fun p => F (Sl.dat p.1, p.2) := fun F => by
    show bnd (bnd (f0 ρ) _) F = _
    cases f0 ρ <;> rfl
  rw [e0]
  refine Sim.bnd h0 fun x0 => ?_
  dsimp only
  rw [seq_mKs]
  have e1 : ∀ F : Sl × DEnv → Res (Ctl × DEnv), bnd (mK (.d f1) ρ) F = bnd (f1 ρ) fun p => F (Sl.dat p.1, p.2) := fun F => by
    show bnd (bnd (f1 ρ) _) F = _
    cases f1 ρ <;> rfl
  rw [e1]
  refine Sim.bnd h1 fun x1 => ?_
  dsimp only
  rw [seq_mKs]
  have e2 : ∀ F : Sl × DEnv → Res (Ctl × DEnv), bnd (mK (.n (mNL f2)) ρ) F = bnd (f2 ρ) fun p => F (Sl.ob false (.lst p.1), p.2) := fun F => by
    show bnd (bnd (bnd (f2 ρ) _) _) F = _
    cases f2 ρ <;> rfl
  rw [e2]
  refine Sim.bnd h2 fun x2 => ?_
  dsimp only
  rw [seq_mKs]
  have e3 : ∀ F : Sl × DEnv → Res (Ctl × DEnv), bnd (mK (.n (mNL f3)) ρ) F = bnd (f3 ρ) fun p => F (Sl.ob false (.lst p.1), p.2) := fun F => by
    show bnd (bnd (bnd (f3 ρ) _) _) F = _
    cases f3 ρ <;> rfl
  rw [e3]
  refine Sim.bnd h3 fun x3 => ?_
  dsimp only
  show Sim (if _ then _ else _) _ I
  rw [if_pos ⟨rfl, bltAll_ok hi⟩]
  exact hk x0 x1 x2 x3
theorem sPar_dldd {i0 i1 i2 i3 : Nat} {f0 : EvF} {f1 : EvA} {f2 : EvF} {f3 : EvF} {q0 : Res (D)} {q1 : Res (List D)} {q2 : Res (D)} {q3 : Res (D)} {k : D → List D → D → D → Res β} (h0 : Ev f0 ρ q0) (h1 : Ev f1 ρ q1) (h2 : Ev f2 ρ q2) (h3 : Ev f3 ρ q3) (hk : ∀ x0 x1 x2 x3, Sim (rest (((((ρ).set i3 (some (Sl.dat x3))).set i2 (some (Sl.dat x2))).set i1 (some (Sl.ob false (.lst x1)))).set i0 (some (Sl.dat x0)))) (k x0 x1 x2 x3) I) (hi : bltAll [i0, i1, i2, i3] ρ.length = true := by rfl) :
    Sim (mSeq (mPar [i0, i1, i2, i3] [.d f0, .n (mNL f1), .d f2, .d f3]) rest ρ) (bnd q0 fun x0 => bnd q1 fun x1 => bnd q2 fun x2 => bnd q3 fun x3 => k x0 x1 x2 x3) I := by
  rw [seq_par]
  rw [seq_mKs]
  have e0 : ∀ F : Sl × DEnv → Res (Ctl × DEnv), bnd (mK (.d f0) ρ) F = bnd (f0 ρ) fun p => F (Sl.dat p.1, p.2) := fun F => by
    show bnd (bnd (f0 ρ) _) F = _
    cases f0 ρ <;> rfl
  rw [e0]
  refine Sim.bnd h0 fun x0 => ?_
  dsimp only
  rw [seq_mKs]
  have e1 : ∀ F : Sl × DEnv → Res (Ctl × DEnv), bnd (mK (.n (mNL f1)) ρ) F = bnd (f1 ρ) fun p => F (Sl.ob false (.lst p.1), p.2) := fun F => by
    show bnd (bnd (bnd (f1 ρ) _) _) F = _
    cases f1 ρ <;> rfl
  rw [e1]
  refine Sim.bnd h1 fun x1 => ?_
  dsimp only
  rw [seq_mKs]
  have e2 : ∀ F : Sl × DEnv → Res (Ctl × DEnv), bnd (mK (.d f2) ρ) F = bnd (f2 ρ) fun p => F (Sl.dat p.1, p.2) := fun F => by
    show bnd (bnd (f2 ρ) _) F = _
    cases f2 ρ <;> rfl
  rw [e2]
  refine Sim.bnd h2 fun x2 => ?_
  dsimp only
  rw [seq_mKs]
  have e3 : ∀ F : Sl × DEnv → Res (Ctl × DEnv), bnd (mK (.d f3) ρ) F = bnd (f3 ρ) fun p => F (Sl.dat p.1, p.2) := fun F => by
    show bnd (bnd (f3 ρ) _) F = _
    cases f3 ρ <;> rfl
  rw [e3]
  refine Sim.bnd h3 fun x3 => ?_
  dsimp only
  show Sim (if _ then _ else _) _ I
  rw [if_pos ⟨rfl, bltAll_ok hi⟩]
  exact hk x0 x1 x2 x3
theorem sPar_dldl {i0 i1 i2 i3 : Nat} {f0 : EvF} {f1 : EvA} {f2 : EvF} {f3 : EvA} {q0 : Res (D)} {q1 : Res (List D)} {q2 : Res (D)} {q3 : Res (List D)} {k : D → List D → D → List D → Res β} (h0 : Ev f0 ρ q0) (h1 : Ev f1 ρ q1) (h2 : Ev f2 ρ q2) (h3 : Ev f3 ρ q3) (hk : ∀ x0 x1 x2 x3, Sim (rest (((((ρ).set i3 (some (Sl.ob false (.lst x3)))).set i2 (some (Sl.dat x2))).set i1 (some (Sl.ob false (.lst x1)))).set i0 (some (Sl.dat x0)))) (k x0 x1 x2 x3) I) (hi : bltAll [i0, i1, i2, i3] ρ.length = true := by rfl) :
    Sim (mSeq (mPar [i0, i1, i2, i3] [.d f0, .n (mNL f1), .d f2, .n (mNL f3)]) rest ρ) (bnd q0 fun x0 => bnd q1 fun x1 => bnd q2 fun x2 => bnd q3 fun x3 => k x0 x1 x2 x3) I := by
  rw [seq_par]
  rw [seq_mKs]
  have e0 : ∀ F : Sl × DEnv → Res (Ctl × DEnv), bnd (mK (.d f0) ρ) F = bnd (f0 ρ) fun p => F (Sl.dat p.1, p.2) := fun F => by
    show bnd (bnd (f0 ρ) _) F = _
    cases f0 ρ <;> rfl
  rw [e0]
  refine Sim.bnd h0 fun x0 => ?_
  dsimp only
  rw [seq_mKs]
  have e1 : ∀ F : Sl × DEnv → Res (Ctl × DEnv), bnd (mK (.n (mNL f1)) ρ) F = bnd (f1 ρ) fun p => F (Sl.ob false (.lst p.1), p.2) := fun F => by
    show bnd (bnd (bnd (f1 ρ) _) _) F = _
    cases f1 ρ <;> rfl
  rw [e1]
  refine Sim.bnd h1 fun x1 => ?_
  dsimp only
  rw [seq_mKs]
  have e2 : ∀ F : Sl × DEnv → Res (Ctl × DEnv), bnd (mK (.d f2) ρ) F = bnd (f2 ρ) fun p => F (Sl.dat p.1, p.2) := fun F => by
    show bnd (bnd (f2 ρ) _) F = _
    cases f2 ρ <;> rfl
  rw [e2]
  refine Sim.bnd h2 fun x2 => ?_
  dsimp only
  rw [seq_mKs]
  have e3 : ∀ F : Sl × DEnv → Res (Ctl × DEnv), bnd (mK (.n (mNL f3)) ρ) F = bnd (f3 ρ) fun p => F (Sl.ob false (.lst p.1), p.2) := fun F => by
    show bnd (bnd (bnd (f3 ρ) _) _) F = _
    cases f3 ρ <;> rfl
  rw [e3]
  refine Sim.bnd h3 fun x3 => ?_
  dsimp only
  show Sim (if _ then _ else _) _ I
  rw [if_pos ⟨rfl, bltAll_ok hi⟩]
  exact hk x0 x1 x2 x3
theorem sPar_dlld {i0 i1 i2 i3 : Nat} {f0 : EvF} {f1 : EvA} {f2 : EvA} {f3 : EvF} {q0 : Res (D)} {q1 : Res (List D)} {q2 : Res (List D)} {q3 : Res (D)} {k : D → List D → List D → D → Res β} (h0 : Ev f0 ρ q0) (h1 : Ev f1 ρ q1) (h2 : Ev f2 ρ q2) (h3 : Ev f3 ρ q3) (hk : ∀ x0 x1 x2 x3, Sim (rest (((((ρ).set i3 (some (Sl.dat x3))).set i2 (some (Sl.ob false (.lst x2)))).set i1 (some (Sl.ob false (.lst x1)))).set i0 (some (Sl.dat x0)))) (k x0 x1 x2 x3) I) (hi : bltAll [i0, i1, i2, i3] ρ.length = true := by rfl) :
    Sim (mSeq (mPar [i0, i1, i2, i3] [.d f0, .n (mNL f1), .n (mNL f2), .d f3]) rest ρ) (bnd q0 fun x0 => bnd q1 fun x1 => bnd q2 fun x2 => bnd q3 fun x3 => k x0 x1 x2 x3) I := by
  rw [seq_par]
  rw [seq_mKs]
  have e0 : ∀ F : Sl × DEnv → Res (Ctl × DEnv), bnd (mK (.d f0) ρ) F = bnd (f0 ρ) fun p => F (Sl.dat p.1, p.2) := fun F => by
    show bnd (bnd (f0 ρ) _) F = _
    cases f0 ρ <;> rfl
  rw [e0]
  refine Sim.bnd h0 fun x0 => ?_
  dsimp only
  rw [seq_mKs]
  have e1 : ∀ F : Sl × DEnv → Res (Ctl × DEnv), bnd (mK (.n (mNL f1)) ρ) F = bnd (f1 ρ) fun p => F (Sl.ob false (.lst p.1), p.2) := fun F => by
    show bnd (bnd (bnd (f1 ρ) _) _) F = _
    cases f1 ρ <;> rfl
  rw [e1]
  refine Sim.bnd h1 fun x1 => ?_
  dsimp only
  rw [seq_mKs]
  have e2 : ∀ F : Sl × DEnv → Res (Ctl × DEnv), bnd (mK (.n (mNL f2)) ρ) F = bnd (f2 ρ) fun p => F (Sl.ob false (.lst p.1), p.2) := fun F => by
    show bnd (bnd (bnd (f2 ρ) _) _) F = _
    cases f2 ρ <;> rfl
  rw [e2]
  refine Sim.bnd h2 fun x2 => ?_
  dsimp only
  rw [seq_mKs]
  have e3 : ∀ F : Sl × DEnv → Res (Ctl × DEnv), bnd (mK (.d f3) ρ) F = bnd (f3 ρ) fun p => F (Sl.dat p.1, p.2) := fun F => by
    show bnd (bnd (f3 ρ) _) F = _
    cases f3 ρ <;> rfl
  rw [e3]
  refine Sim.bnd h3 fun x3 => ?_
  dsimp only
  show Sim (if _ then _ else _) _ I
  rw [if_pos ⟨rfl, bltAll_ok hi⟩]
  exact hk x0 x1 x2 x3
theorem sPar_dlll {i0 i1 i2 i3 : Nat} {f0 : EvF} {f1 : EvA} {f2 : EvA} {f3 : EvA} {q0 : Res (D)} {q1 : Res (List D)} {q2 : Res (List D)} {q3 : Res (List D)} {k : D → List D → List D → List D → Res β} (h0 : Ev f0 ρ q0) (h1 : Ev f1 ρ q1) (h2 : Ev f2 ρ q2) (h3 : Ev f3 ρ q3) (hk : ∀ x0 x1 x2 x3, Sim (rest (((((ρ).set i3 (some (Sl.ob false (.lst x3)))).set i2 (some (Sl.ob false (.lst x2)))).set i1 (some (Sl.ob false (.lst x1)))).set i0 (some (Sl.dat x0)))) (k x0 x1 x2 x3) I) (hi : bltAll [i0, i1, i2, i3] ρ.length = true := by rfl) :
    Sim (mSeq (mPar [i0, i1, i2, i3] [.d f0, .n (mNL f1), .n (mNL f2), .n (mNL f3)]) rest ρ) (bnd q0 fun x0 => bnd q1 fun x1 => bnd q2 fun x2 => bnd q3 fun x3 => k x0 x1 x2 x3) I := by
  rw [seq_par]
  rw [seq_mKs]
  have e0 : ∀ F : Sl × DEnv → Res (Ctl × DEnv), bnd (mK (.d f0) ρ) F = bnd (f0 ρ) fun p => F (Sl.dat p.1, p.2) := fun F => by
    show bnd (bnd (f0 ρ) _) F = _
    cases f0 ρ <;> rfl
  rw [e0]
  refine Sim.bnd h0 fun x0 => ?_
  dsimp only
  rw [seq_mKs]
  have e1 : ∀ F : Sl × DEnv → Res (Ctl × DEnv), bnd (mK (.n (mNL f1)) ρ) F = bnd (f1 ρ) fun p => F (Sl.ob false (.lst p.1), p.2) := fun F => by
    show bnd (bnd (bnd (f1 ρ) _) _) F = _
    cases f1 ρ <;> rfl
  rw [e1]
  refine Sim.bnd h1 fun x1 => ?_
  dsimp only
  rw [seq_mKs]
  have e2 : ∀ F : Sl × DEnv → Res (Ctl × DEnv), bnd (mK (.n (mNL f2)) ρ) F = bnd (f2 ρ) fun p => F (Sl.ob false (.lst p.1), p.2) := fun F => by
    show bnd (bnd (bnd (f2 ρ) _) _) F = _
    cases f2 ρ <;> rfl
  rw [e2]
  refine Sim.bnd h2 fun x2 => ?_
  dsimp only
  rw [seq_mKs]
  have e3 : ∀ F : Sl × DEnv → Res (Ctl × DEnv), bnd (mK (.n (mNL f3)) ρ) F = bnd (f3 ρ) fun p => F (Sl.ob false (.lst p.1), p.2) := fun F => by
    show bnd (bnd (bnd (f3 ρ) _) _) F = _
    cases f3 ρ <;> rfl
  rw [e3]
  refine Sim.bnd h3 fun x3 => ?_
  dsimp only
  show Sim (if _ then _ else _) _ I
  rw [if_pos ⟨rfl, bltAll_ok hi⟩]
  exact hk x0 x1 x2 x3
theorem sPar_lddd {i0 i1 i2 i3 : Nat} {f0 : EvA} {f1 : EvF} {f2 : EvF} {f3 : EvF} {q0 : Res (List D)} {q1 : Res (D)} {q2 : Res (D)} {q3 : Res (D)} {k : List D → D → D → D → Res β} (h0 : Ev f0 ρ q0) (h1 : Ev f1 ρ q1) (h2 : Ev f2 ρ q2) (h3 : Ev f3 ρ q3) (hk : ∀ x0 x1 x2 x3, Sim (rest (((((ρ).set i3 (some (Sl.dat x3))).set i2 (some (Sl.dat x2))).set i1 (some (Sl.dat x1))).set i0 (some (Sl.ob false (.lst x0))))) (k x0 x1 x2 x3) I) (hi : bltAll [i0, i1, i2, i3] ρ.length = true := by rfl) :
    Sim (mSeq (mPar [i0, i1, i2, i3] [.n (mNL f0), .d f1, .d f2, .d f3]) rest ρ) (bnd q0 fun x0 => bnd q1 fun x1 => bnd q2 fun x2 => bnd q3 fun x3 => k x0 x1 x2 x3) I := by
  rw [seq_par]
  rw [seq_mKs]
  have e0 : ∀ F : Sl × DEnv → Res (Ctl × DEnv), bnd (mK (.n (mNL f0)) ρ) F = bnd (f0 ρ) fun p => F (Sl.ob false (.lst p.1), p.2) := fun F => by
    show bnd (bnd (bnd (f0 ρ) _) _) F = _
    cases f0 ρ <;> rfl
  rw [e0]
  refine Sim.bnd h0 fun x0 => ?_
  dsimp only
  rw [seq_mKs]
  have e1 : ∀ F : Sl × DEnv → Res (Ctl × DEnv), bnd (mK (.d f1) ρ) F = bnd (f1 ρ) fun p => F (Sl.dat p.1, p.2) := fun F => by
    show bnd (bnd (f1 ρ) _) F = _
    cases f1 ρ <;> rfl
  rw [e1]
  refine Sim.bnd h1 fun x1 => ?_
  dsimp only
  rw [seq_mKs]
  have e2 : ∀ F : Sl × DEnv → Res (Ctl × DEnv), bnd (mK (.d f2) ρ) F = bnd (f2 ρ) fun p => F (Sl.dat p.1, p.2) := fun F => by
    show bnd (bnd (f2 ρ) _) F = _
    cases f2 ρ <;> rfl
  rw [e2]
  refine Sim.bnd h2 fun x2 => ?_
  dsimp only
  rw [seq_mKs]
  have e3 : ∀ F : Sl × DEnv → Res (Ctl × DEnv), bnd (mK (.d f3) ρ) F = bnd (f3 ρ) fun p => F (Sl.dat p.1, p.2) := fun F => by
    show bnd (bnd (f3 ρ) _) F = _
    cases f3 ρ <;> rfl
  rw [e3]
  refine Sim.bnd h3 fun x3 => ?_
  dsimp only
  show Sim (if _ then _ else _) _ I
  rw [if_pos ⟨rfl, bltAll_ok hi⟩]
  exact hk x0 x1 x2 x3
theorem sPar_lddl {i0 i1 i2 i3 : Nat} {f0 : EvA} {f1 : EvF} {f2 : EvF} {f3 : EvA} {q0 : Res (List D)} {q1 : Res (D)} {q2 : Res (D)} {q3 : Res (List D)} {k : List D → D → D → List D → Res β} (h0 : Ev f0 ρ q0) (h1 : Ev f1 ρ q1) (h2 : Ev f2 ρ q2) (h3 : Ev f3 ρ q3) (hk : ∀ x0 x1 x2 x3, Sim (rest (((((ρ).set i3 (some (Sl.ob false (.lst x3)))).set i2 (some (Sl.dat x2))).set i1 (some (Sl.dat x1))).set i0 (some (Sl.ob false (.lst x0))))) (k x0 x1 x2 x3) I) (hi : bltAll [i0, i1, i2, i3] ρ.length = true := by rfl) :
    Sim (mSeq (mPar [i0, i1, i2, i3] [.n (mNL f0), .d f1, .d f2, .n (mNL f3)]) rest ρ) (bnd q0 fun x0 => bnd q1 fun x1 => bnd q2 fun x2 => bnd q3 fun x3 => k x0 x1 x2 x3) I := by
  rw [seq_par]
  rw [seq_mKs]
  have e0 : ∀ F : Sl × DEnv → Res (Ctl × DEnv), bnd (mK (.n (mNL f0)) ρ) F = bnd (f0 ρ) fun p => F (Sl.ob false (.lst p.1), p.2) := fun F => by
    show bnd (bnd (bnd (f0 ρ) _) _) F = _
    cases f0 ρ <;> rfl
  rw [e0]
  refine Sim.bnd h0 fun x0 => ?_
  dsimp only
  rw [seq_mKs]
  have e1 : ∀ F : Sl × DEnv → Res (Ctl × DEnv), bnd (mK (.d f1) ρ) F = bnd (f1 ρ) fun p => F (Sl.dat p.1, p.2) := fun F => by
    show bnd (bnd (f1 ρ) _) F = _
    cases f1 ρ <;> rfl
  rw [e1]
  refine Sim.bnd h1 fun x1 => ?_
  dsimp only
  rw [seq_mKs]
  have e2 : ∀ F : Sl × DEnv → Res (Ctl × DEnv), bnd (mK (.d f2) ρ) F = bnd (f2 ρ) fun p => F (Sl.dat p.1, p.2) := fun F => by
    show bnd (bnd (f2 ρ) _) F = _
    cases f2 ρ <;> rfl
  rw [e2]
  refine Sim.bnd h2 fun x2 => ?_
  dsimp only
  rw [seq_mKs]
  have e3 : ∀ F : Sl × DEnv → Res (Ctl × DEnv), bnd (mK (.n (mNL f3)) ρ) F = bnd (f3 ρ) fun p => F (Sl.ob false (.lst p.1), p.2) := fun F => by
    show bnd (bnd (bnd (f3 ρ) _) _) F = _
    cases f3 ρ <;> rfl
  rw [e3]
  refine Sim.bnd h3 fun x3 => ?_
  dsimp only
  show Sim (if _ then _ else _) _ I
  rw [if_pos ⟨rfl, bltAll_ok hi⟩]
  exact hk x0 x1 x2 x3
theorem sPar_ldld {i0 i1 i2 i3 : Nat} {f0 : EvA} {f1 : EvF} {f2 : EvA} {f3 : EvF} {q0 : Res (List D)} {q1 : Res (D)} {q2 : Res (List D)} {q3 : Res (D)} {k : List D → D → List D → D → Res β} (h0 : Ev f0 ρ q0) (h1 : Ev f1 ρ q1) (h2 : Ev f2 ρ q2) (h3 : Ev f3 ρ q3) (hk : ∀ x0 x1 x2 x3, Sim (rest (((((ρ).set i3 (some (Sl.dat x3))).set i2 (some (Sl.ob false (.lst x2)))).set i1 (some (Sl.dat x1))).set i0 (some (Sl.ob false (.lst x0))))) (k x0 x1 x2 x3) I) (hi : bltAll [i0, i1, i2, i3] ρ.length = true := by rfl) :
    Sim (mSeq (mPar [i0, i1, i2, i3] [.n (mNL f0), .d f1, .n (mNL f2), .d f3]) rest ρ) (bnd q0 fun x0 => bnd q1 fun x1 => bnd q2 fun x2 => bnd q3 fun x3 => k x0 x1 x2 x3) I := by
  rw [seq_par]
  rw [seq_mKs]
  have e0 : ∀ F : Sl × DEnv → Res (Ctl × DEnv), bnd (mK (.n (mNL f0)) ρ) F = bnd (f0 ρ) fun p => F (Sl.ob false (.lst p.1), p.2) := fun F => by
    show bnd (bnd (bnd (f0 ρ) _) _) F = _
    cases f0 ρ <;> rfl
  rw [e0]
  refine Sim.bnd h0 fun x0 => ?_
  dsimp only
  rw [seq_mKs]
  have e1 : ∀ F : Sl × DEnv → Res (Ctl × DEnv), bnd (mK (.d f1) ρ) F = bnd (f1 ρ) fun p => F (Sl.dat p.1, p.2) := fun F => by
    show bnd (bnd (f1 ρ) _) F = _
    cases f1 ρ <;> rfl
  rw [e1]
  refine Sim.bnd h1 fun x1 => ?_
  dsimp only
  rw [seq_mKs]
  have e2 : ∀ F : Sl × DEnv → Res (Ctl × DEnv), bnd (mK (.n (mNL f2)) ρ) F = bnd (f2 ρ) fun p => F (Sl.ob false (.lst p.1), p.2) := fun F => by
    show bnd (bnd (bnd (f2 ρ) _) _) F = _
    cases f2 ρ <;> rfl
  rw [e2]
  refine Sim.bnd h2 fun x2 => ?_
  dsimp only
  rw [seq_mKs]
  have e3 : ∀ F : Sl × DEnv → Res (Ctl × DEnv), bnd (mK (.d f3) ρ) F = bnd (f3 ρ) fun p => F (Sl.dat p.1, p.2) := fun F => by
    show bnd (bnd (f3 ρ) _) F = _
    cases f3 ρ <;> rfl
  rw [e3]
  refine Sim.bnd h3 fun x3 => ?_
  dsimp only
  show Sim (if _ then _ else _) _ I
  rw [if_pos ⟨rfl, bltAll_ok hi⟩]
  exact hk x0 x1 x2 x3
theorem sPar_ldll {i0 i1 i2 i3 : Nat} {f0 : EvA} {f1 : EvF} {f2 : EvA} {f3 : EvA} {q0 : Res (List D)} {q1 : Res (D)} {q2 : Res (List D)} {q3 : Res (List D)} {k : List D → D → List D → List D → Res β} (h0 : Ev f0 ρ q0) (h1 : Ev f1 ρ q1) (h2 : Ev f2 ρ q2) (h3 : Ev f3 ρ q3) (hk : ∀ x0 x1 x2 x3, Sim (rest (((((ρ).set i3 (some (Sl.ob false (.lst x3)))).set i2 (some (Sl.ob false (.lst x2)))).set i1 (some (Sl.dat x1))).set i0 (some (Sl.ob false (.lst x0))))) (k x0 x1 x2 x3) I) (hi : bltAll [i0, i1, i2, i3] ρ.length = true := by rfl) :
    Sim (mSeq (mPar [i0, i1, i2, i3] [.n (mNL f0), .d f1, .n (mNL f2), .n (mNL f3)]) rest ρ) (bnd q0 fun x0 => bnd q1 fun x1 => bnd q2 fun x2 => bnd q3 fun x3 => k x0 x1 x2 x3) I := by
  rw [seq_par]
  rw [seq_mKs]
  have e0 : ∀ F : Sl × DEnv → Res (Ctl × DEnv), bnd (mK (.n (mNL f0)) ρ) F = bnd (f0 ρ) fun p => F (Sl.ob false (.lst p.1), p.2) := fun F => by
    show bnd (bnd (bnd (f0 ρ) _) _) F = _
    cases f0 ρ <;> rfl
  rw [e0]
  refine Sim.bnd h0 fun x0 => ?_
  dsimp only
  rw [seq_mKs]
  have e1 : ∀ F : Sl × DEnv → Res (Ctl × DEnv), bnd (mK (.d f1) ρ) F = bnd (f1 ρ) fun p => F (Sl.dat p.1, p.2) := fun F => by
    show bnd (bnd (f1 ρ) _) F = _
    cases f1 ρ <;> rfl
  rw [e1]
  refine Sim.bnd h1 fun x1 => ?_
  dsimp only
  rw [seq_mKs]
  have e2 : ∀ F : Sl × DEnv → Res (Ctl × DEnv), bnd (mK (.n (mNL f2)) ρ) F = bnd (f2 ρ) fun p => F (Sl.ob false (.lst p.1), p.2) := fun F => by
    show bnd (bnd (bnd (f2 ρ) _) _) F = _
    cases f2 ρ <;> rfl
  rw [e2]
  refine Sim.bnd h2 fun x2 => ?_
  dsimp only
  rw [seq_mKs]
  have e3 : ∀ F : Sl × DEnv → Res (Ctl × DEnv), bnd (mK (.n (mNL f3)) ρ) F = bnd (f3 ρ) fun p => F (Sl.ob false (.lst p.1), p.2) := fun F => by
    show bnd (bnd (bnd (f3 ρ) _) _) F = _
    cases f3 ρ <;> rfl
  rw [e3]
  refine Sim.bnd h3 fun x3 => ?_
  dsimp only
  show Sim (if _ then _ else _) _ I
  rw [if_pos ⟨rfl, bltAll_ok hi⟩]
  exact hk x0 x1 x2 x3
theorem sPar_lldd {i0 i1 i2 i3 : Nat} {f0 : EvA} {f1 : EvA} {f2 : EvF} {f3 : EvF} {q0 : Res (List D)} {q1 : Res (List D)} {q2 : Res (D)} {q3 : Res (D)} {k : List D → List D → D → D → Res β} (h0 : Ev f0 ρ q0) (h1 : Ev f1 ρ q1) (h2 : Ev f2 ρ q2) (h3 : Ev f3 ρ q3) (hk : ∀ x0 x1 x2 x3, Sim (rest (((((ρ).set i3 (some (Sl.dat x3))).set i2 (some (Sl.dat x2))).set i1 (some (Sl.ob false (.lst x1)))).set i0 (some (Sl.ob false (.lst x0))))) (k x0 x1 x2 x3) I) (hi : bltAll [i0, i1, i2, i3] ρ.length = true := by rfl) :
    Sim (mSeq (mPar [i0, i1, i2, i3] [.n (mNL f0), .n (mNL f1), .d f2, .d f3]) rest ρ) (bnd q0 fun x0 => bnd q1 fun x1 => bnd q2 fun x2 => bnd q3 fun x3 => k x0 x1 x2 x3) I := by
  rw [seq_par]
  rw [seq_mKs]
  have e0 : ∀ F : Sl × DEnv → Res (Ctl × DEnv), bnd (mK (.n (mNL f0)) ρ) F = bnd (f0 ρ) fun p => F (Sl.ob false (.lst p.1), p.2) := fun F => by
    show bnd (bnd (bnd (f0 ρ) _) _) F = _
    cases f0 ρ <;> rfl
  rw [e0]
  refine Sim.bnd h0 fun x0 => ?_
  dsimp only
  rw [seq_mKs]
  have e1 : ∀ F : Sl × DEnv → Res (Ctl × DEnv), bnd (mK (.n (mNL f1)) ρ) F = bnd (f1 ρ) fun p => F (Sl.ob false (.lst p.1), p.2) := fun F => by
    show bnd (bnd (bnd (f1 ρ) _) _) F = _
    cases f1 ρ <;> rfl
  rw [e1]
  refine Sim.bnd h1 fun x1 => ?_
  dsimp only
  rw [seq_mKs]
  have e2 : ∀ F : Sl × DEnv → Res (Ctl × DEnv), bnd (mK (.d f2) ρ) F = bnd (f2 ρ) fun p => F (Sl.dat p.1, p.2) := fun F => by
    show bnd (bnd (f2 ρ) _) F = _
    cases f2 ρ <;> rfl
  rw [e2]
  refine Sim.bnd h2 fun x2 => ?_
  dsimp only
  rw [seq_mKs]
  have e3 : ∀ F : Sl × DEnv → Res (Ctl × DEnv), bnd (mK (.d f3) ρ) F = bnd (f3 ρ) fun p => F (Sl.dat p.1, p.2) := fun F => by
    show bnd (bnd (f3 ρ) _) F = _
    cases f3 ρ <;> rfl
  rw [e3]
  refine Sim.bnd h3 fun x3 => ?_
  dsimp only
  show Sim (if _ then _ else _) _ I
  rw [if_pos ⟨rfl, bltAll_ok hi⟩]
  exact hk x0 x1 x2 x3
theorem sPar_lldl {i0 i1 i2 i3 : Nat} {f0 : EvA} {f1 : EvA} {f2 : EvF} {f3 : EvA} {q0 : Res (List D)} {q1 : Res (List D)} {q2 : Res (D)} {q3 : Res (List D)} {k : List D → List D → D → List D → Res β} (h0 : Ev f0 ρ q0) (h1 : Ev f1 ρ q1) (h2 : Ev f2 ρ q2) (h3 : Ev f3 ρ q3) (hk : ∀ x0 x1 x2 x3, Sim (rest (((((ρ).set i3 (some (Sl.ob false (.lst x3)))).set i2 (some (Sl.dat x2))).set i1 (some (Sl.ob false (.lst x1)))).set i0 (some (Sl.ob false (.lst x0))))) (k x0 x1 x2 x3) I) (hi : bltAll [i0, i1, i2, i3] ρ.length = true := by rfl) :
    Sim (mSeq (mPar [i0, i1, i2, i3] [.n (mNL f0), .n (mNL f1), .d f2, .n (mNL f3)]) rest ρ) (bnd q0 fun x0 => bnd q1 fun x1 => bnd q2 fun x2 => bnd q3 fun x3 => k x0 x1 x2 x3) I := by
  rw [seq_par]
  rw [seq_mKs]
  have e0 : ∀ F : Sl × DEnv → Res (Ctl × DEnv), bnd (mK (.n (mNL f0)) ρ) F = bnd (f0 ρ) fun p => F (Sl.ob false (.lst p.1), p.2) := fun F => by
    show bnd (bnd (bnd (f0 ρ) _) _) F = _
    cases f0 ρ <;> rfl
  rw [e0]
  refine Sim.bnd h0 fun x0 => ?_
  dsimp only
  rw [seq_mKs]
  have e1 : ∀ F : Sl × DEnv → Res (Ctl × DEnv), bnd (mK (.n (mNL f1)) ρ) F = bnd (f1 ρ) fun p => F (Sl.ob false (.lst p.1), p.2) := fun F => by
    show bnd (bnd (bnd (f1 ρ) _) _) F = _
    cases f1 ρ <;> rfl
  rw [e1]
  refine Sim.bnd h1 fun x1 => ?_
  dsimp only
  rw [seq_mKs]
  have e2 : ∀ F : Sl × DEnv → Res (Ctl × DEnv), bnd (mK (.d f2) ρ) F = bnd (f2 ρ) fun p => F (Sl.dat p.1, p.2) := fun F => by
    show bnd (bnd (f2 ρ) _) F = _
    cases f2 ρ <;> rfl
  rw [e2]
  refine Sim.bnd h2 fun x2 => ?_
  dsimp only
  rw [seq_mKs]
  have e3 : ∀ F : Sl × DEnv → Res (Ctl × DEnv), bnd (mK (.n (mNL f3)) ρ) F = bnd (f3 ρ) fun p => F (Sl.ob false (.lst p.1), p.2) := fun F => by
    show bnd (bnd (bnd (f3 ρ) _) _) F = _
    cases f3 ρ <;> rfl
  rw [e3]
  refine Sim.bnd h3 fun x3 => ?_
  dsimp only
  show Sim (if _ then _ else _) _ I
  rw [if_pos ⟨rfl, bltAll_ok hi⟩]
  exact hk x0 x1 x2 x3
theorem sPar_llld {i0 i1 i2 i3 : Nat} {f0 : EvA} {f1 : EvA} {f2 : EvA} {f3 : EvF} {q0 : Res (List D)} {q1 : Res (List D)} {q2 : Res (List D)} {q3 : Res (D)} {k : List D → List D → List D → D → Res β} (h0 : Ev f0 ρ q0) (h1 : Ev f1 ρ q1) (h2 : Ev f2 ρ q2) (h3 : Ev f3 ρ q3) (hk : ∀ x0 x1 x2 x3, Sim (rest (((((ρ).set i3 (some (Sl.dat x3))).set i2 (some (Sl.ob false (.lst x2)))).set i1 (some (Sl.ob false (.lst x1)))).set i0 (some (Sl.ob false (.lst x0))))) (k x0 x1 x2 x3) I) (hi : bltAll [i0, i1, i2, i3] ρ.length = true := by rfl) :
    Sim (mSeq (mPar [i0, i1, i2, i3] [.n (mNL f0), .n (mNL f1), .n (mNL f2), .d f3]) rest ρ) (bnd q0 fun x0 => bnd q1 fun x1 => bnd q2 fun x2 => bnd q3 fun x3 => k x0 x1 x2 x3) I := by
  rw [seq_par]
  rw [seq_mKs]
  have e0 : ∀ F : Sl × DEnv → Res (Ctl × DEnv), bnd (mK (.n (mNL f0)) ρ) F = bnd (f0 ρ) fun p => F (Sl.ob false (.lst p.1), p.2) := fun F => by
    show bnd (bnd (bnd (f0 ρ) _) _) F = _
    cases f0 ρ <;> rfl
  rw [e0]
  refine Sim.bnd h0 fun x0 => ?_
  dsimp only
  rw [seq_mKs]
  have e1 : ∀ F : Sl × DEnv → Res (Ctl × DEnv), bnd (mK (.n (mNL f1)) ρ) F = bnd (f1 ρ) fun p => F (Sl.ob false (.lst p.1), p.2) := fun F => by
    show bnd (bnd (bnd (f1 ρ) _) _) F = _
    cases f1 ρ <;> rfl
  rw [e1]
  refine Sim.bnd h1 fun x1 => ?_
  dsimp only
  rw [seq_mKs]
  have e2 : ∀ F : Sl × DEnv → Res (Ctl × DEnv), bnd (mK (.n (mNL f2)) ρ) F = bnd (f2 ρ) fun p => F (Sl.ob false (.lst p.1), p.2) := fun F => by
    show bnd (bnd (bnd (f2 ρ) _) _) F = _
    cases f2 ρ <;> rfl
  rw [e2]
  refine Sim.bnd h2 fun x2 => ?_
  dsimp only
  rw [seq_mKs]
  have e3 : ∀ F : Sl × DEnv → Res (Ctl × DEnv), bnd (mK (.d f3) ρ) F = bnd (f3 ρ) fun p => F (Sl.dat p.1, p.2) := fun F => by
    show bnd (bnd (f3 ρ) _) F = _
    cases f3 ρ <;> rfl
  rw [e3]
  refine Sim.bnd h3 fun x3 => ?_
  dsimp only
  show Sim (if _ then _ else _) _ I
  rw [if_pos ⟨rfl, bltAll_ok hi⟩]
  exact hk x0 x1 x2 x3
theorem sPar_llll {i0 i1 i2 i3 : Nat} {f0 : EvA} {f1 : EvA} {f2 : EvA} {f3 : EvA} {q0 : Res (List D)} {q1 : Res (List D)} {q2 : Res (List D)} {q3 : Res (List D)} {k : List D → List D → List D → List D → Res β} (h0 : Ev f0 ρ q0) (h1 : Ev f1 ρ q1) (h2 : Ev f2 ρ q2) (h3 : Ev f3 ρ q3) (hk : ∀ x0 x1 x2 x3, Sim (rest (((((ρ).set i3 (some (Sl.ob false (.lst x3)))).set i2 (some (Sl.ob false (.lst x2)))).set i1 (some (Sl.ob false (.lst x1)))).set i0 (some (Sl.ob false (.lst x0))))) (k x0 x1 x2 x3) I) (hi : bltAll [i0, i1, i2, i3] ρ.length = true := by rfl) :
    Sim (mSeq (mPar [i0, i1, i2, i3] [.n (mNL f0), .n (mNL f1), .n (mNL f2), .n (mNL f3)]) rest ρ) (bnd q0 fun x0 => bnd q1 fun x1 => bnd q2 fun x2 => bnd q3 fun x3 => k x0 x1 x2 x3) I := by
  rw [seq_par]
  rw [seq_mKs]
  have e0 : ∀ F : Sl × DEnv → Res (Ctl × DEnv), bnd (mK (.n (mNL f0)) ρ) F = bnd (f0 ρ) fun p => F (Sl.ob false (.lst p.1), p.2) := fun F => by
    show bnd (bnd (bnd (f0 ρ) _) _) F = _
    cases f0 ρ <;> rfl
  rw [e0]
  refine Sim.bnd h0 fun x0 => ?_
  dsimp only
  rw [seq_mKs]
  have e1 : ∀ F : Sl × DEnv → Res (Ctl × DEnv), bnd (mK (.n (mNL f1)) ρ) F = bnd (f1 ρ) fun p => F (Sl.ob false (.lst p.1), p.2) := fun F => by
    show bnd (bnd (bnd (f1 ρ) _) _) F = _
    cases f1 ρ <;> rfl
  rw [e1]
  refine Sim.bnd h1 fun x1 => ?_
  dsimp only
  rw [seq_mKs]
  have e2 : ∀ F : Sl × DEnv → Res (Ctl × DEnv), bnd (mK (.n (mNL f2)) ρ) F = bnd (f2 ρ) fun p => F (Sl.ob false (.lst p.1), p.2) := fun F => by
    show bnd (bnd (bnd (f2 ρ) _) _) F = _
    cases f2 ρ <;> rfl
  rw [e2]
  refine Sim.bnd h2 fun x2 => ?_
  dsimp only
  rw [seq_mKs]
  have e3 : ∀ F : Sl × DEnv → Res (Ctl × DEnv), bnd (mK (.n (mNL f3)) ρ) F = bnd (f3 ρ) fun p => F (Sl.ob false (.lst p.1), p.2) := fun F => by
    show bnd (bnd (bnd (f3 ρ) _) _) F = _
    cases f3 ρ <;> rfl
  rw [e3]
  refine Sim.bnd h3 fun x3 => ?_
  dsimp only
  show Sim (if _ then _ else _) _ I
  rw [if_pos ⟨rfl, bltAll_ok hi⟩]
  exact hk x0 x1 x2 x3

end
theorem sm1 {β : Type} {F : List D → Res (Ctl × DEnv)} {k : D → Res β} {I : β → Ctl → DEnv → Prop} (h : ∀ x0, Sim (F [x0]) (k x0) I) : ∀ l, Sim (F l) (m1 k l) I := fun l => by
  unfold m1
  split
  · exact h _
  · exact True.intro
theorem em1 {α : Type} {F : List D → Res (α × DEnv)} {ρ : List D → DEnv} {k : D → Res α} (h : ∀ x0, EvR (F [x0]) (ρ [x0]) (k x0)) : ∀ l, EvR (F l) (ρ l) (m1 k l) := fun l => by
  unfold m1
  split
  · exact h _
  · exact True.intro
theorem sm2 {β : Type} {F : List D → Res (Ctl × DEnv)} {k : D → D → Res β} {I : β → Ctl → DEnv → Prop} (h : ∀ x0 x1, Sim (F [x0, x1]) (k x0 x1) I) : ∀ l, Sim (F l) (m2 k l) I := fun l => by
  unfold m2
  split
  · exact h _ _
  · exact True.intro
theorem em2 {α : Type} {F : List D → Res (α × DEnv)} {ρ : List D → DEnv} {k : D → D → Res α} (h : ∀ x0 x1, EvR (F [x0, x1]) (ρ [x0, x1]) (k x0 x1)) : ∀ l, EvR (F l) (ρ l) (m2 k l) := fun l => by
  unfold m2
  split
  · exact h _ _
  · exact True.intro
theorem sm3 {β : Type} {F : List D → Res (Ctl × DEnv)} {k : D → D → D → Res β} {I : β → Ctl → DEnv → Prop} (h : ∀ x0 x1 x2, Sim (F [x0, x1, x2]) (k x0 x1 x2) I) : ∀ l, Sim (F l) (m3 k l) I := fun l => by
  unfold m3
  split
  · exact h _ _ _
  · exact True.intro
theorem em3 {α : Type} {F : List D → Res (α × DEnv)} {ρ : List D → DEnv} {k : D → D → D → Res α} (h : ∀ x0 x1 x2, EvR (F [x0, x1, x2]) (ρ [x0, x1, x2]) (k x0 x1 x2)) : ∀ l, EvR (F l) (ρ l) (m3 k l) := fun l => by
  unfold m3
  split
  · exact h _ _ _
  · exact True.intro
theorem sm4 {β : Type} {F : List D → Res (Ctl × DEnv)} {k : D → D → D → D → Res β} {I : β → Ctl → DEnv → Prop} (h : ∀ x0 x1 x2 x3, Sim (F [x0, x1, x2, x3]) (k x0 x1 x2 x3) I) : ∀ l, Sim (F l) (m4 k l) I := fun l => by
  unfold m4
  split
  · exact h _ _ _ _
  · exact True.intro
theorem em4 {α : Type} {F : List D → Res (α × DEnv)} {ρ : List D → DEnv} {k : D → D → D → D → Res α} (h : ∀ x0 x1 x2 x3, EvR (F [x0, x1, x2, x3]) (ρ [x0, x1, x2, x3]) (k x0 x1 x2 x3)) : ∀ l, EvR (F l) (ρ l) (m4 k l) := fun l => by
  unfold m4
  split
  · exact h _ _ _ _
  · exact True.intro
theorem sm5 {β : Type} {F : List D → Res (Ctl × DEnv)} {k : D → D → D → D → D → Res β} {I : β → Ctl → DEnv → Prop} (h : ∀ x0 x1 x2 x3 x4, Sim (F [x0, x1, x2, x3, x4]) (k x0 x1 x2 x3 x4) I) : ∀ l, Sim (F l) (m5 k l) I := fun l => by
  unfold m5
  split
  · exact h _ _ _ _ _
  · exact True.intro
theorem em5 {α : Type} {F : List D → Res (α × DEnv)} {ρ : List D → DEnv} {k : D → D → D → D → D → Res α} (h : ∀ x0 x1 x2 x3 x4, EvR (F [x0, x1, x2, x3, x4]) (ρ [x0, x1, x2, x3, x4]) (k x0 x1 x2 x3 x4)) : ∀ l, EvR (F l) (ρ l) (m5 k l) := fun l => by
  unfold m5
  split
  · exact h _ _ _ _ _
  · exact True.intro
theorem sm6 {β : Type} {F : List D → Res (Ctl × DEnv)} {k : D → D → D → D → D → D → Res β} {I : β → Ctl → DEnv → Prop} (h : ∀ x0 x1 x2 x3 x4 x5, Sim (F [x0, x1, x2, x3, x4, x5]) (k x0 x1 x2 x3 x4 x5) I) : ∀ l, Sim (F l) (m6 k l) I := fun l => by
  unfold m6
  split
  · exact h _ _ _ _ _ _
  · exact True.intro
theorem em6 {α : Type} {F : List D → Res (α × DEnv)} {ρ : List D → DEnv} {k : D → D → D → D → D → D → Res α} (h : ∀ x0 x1 x2 x3 x4 x5, EvR (F [x0, x1, x2, x3, x4, x5]) (ρ [x0, x1, x2, x3, x4, x5]) (k x0 x1 x2 x3 x4 x5)) : ∀ l, EvR (F l) (ρ l) (m6 k l) := fun l => by
  unfold m6
  split
  · exact h _ _ _ _ _ _
  · exact True.intro
theorem sm7 {β : Type} {F : List D → Res (Ctl × DEnv)} {k : D → D → D → D → D → D → D → Res β} {I : β → Ctl → DEnv → Prop} (h : ∀ x0 x1 x2 x3 x4 x5 x6, Sim (F [x0, x1, x2, x3, x4, x5, x6]) (k x0 x1 x2 x3 x4 x5 x6) I) : ∀ l, Sim (F l) (m7 k l) I := fun l => by
  unfold m7
  split
  · exact h _ _ _ _ _ _ _
  · exact True.intro
theorem em7 {α : Type} {F : List D → Res (α × DEnv)} {ρ : List D → DEnv} {k : D → D → D → D → D → D → D → Res α} (h : ∀ x0 x1 x2 x3 x4 x5 x6, EvR (F [x0, x1, x2, x3, x4, x5, x6]) (ρ [x0, x1, x2, x3, x4, x5, x6]) (k x0 x1 x2 x3 x4 x5 x6)) : ∀ l, EvR (F l) (ρ l) (m7 k l) := fun l => by
  unfold m7
  split
  · exact h _ _ _ _ _ _ _
  · exact True.intro
theorem sm8 {β : Type} {F : List D → Res (Ctl × DEnv)} {k : D → D → D → D → D → D → D → D → Res β} {I : β → Ctl → DEnv → Prop} (h : ∀ x0 x1 x2 x3 x4 x5 x6 x7, Sim (F [x0, x1, x2, x3, x4, x5, x6, x7]) (k x0 x1 x2 x3 x4 x5 x6 x7) I) : ∀ l, Sim (F l) (m8 k l) I := fun l => by
  unfold m8
  split
  · exact h _ _ _ _ _ _ _ _
  · exact True.intro
theorem em8 {α : Type} {F : List D → Res (α × DEnv)} {ρ : List D → DEnv} {k : D → D → D → D → D → D → D → D → Res α} (h : ∀ x0 x1 x2 x3 x4 x5 x6 x7, EvR (F [x0, x1, x2, x3, x4, x5, x6, x7]) (ρ [x0, x1, x2, x3, x4, x5, x6, x7]) (k x0 x1 x2 x3 x4 x5 x6 x7)) : ∀ l, EvR (F l) (ρ l) (m8 k l) := fun l => by
  unfold m8
  split
  · exact h _ _ _ _ _ _ _ _
  · exact True.intro
theorem sm9 {β : Type} {F : List D → Res (Ctl × DEnv)} {k : D → D → D → D → D → D → D → D → D → Res β} {I : β → Ctl → DEnv → Prop} (h : ∀ x0 x1 x2 x3 x4 x5 x6 x7 x8, Sim (F [x0, x1, x2, x3, x4, x5, x6, x7, x8]) (k x0 x1 x2 x3 x4 x5 x6 x7 x8) I) : ∀ l, Sim (F l) (m9 k l) I := fun l => by
  unfold m9
  split
  · exact h _ _ _ _ _ _ _ _ _
  · exact True.intro
theorem em9 {α : Type} {F : List D → Res (α × DEnv)} {ρ : List D → DEnv} {k : D → D → D → D → D → D → D → D → D → Res α} (h : ∀ x0 x1 x2 x3 x4 x5 x6 x7 x8, EvR (F [x0, x1, x2, x3, x4, x5, x6, x7, x8]) (ρ [x0, x1, x2, x3, x4, x5, x6, x7, x8]) (k x0 x1 x2 x3 x4 x5 x6 x7 x8)) : ∀ l, EvR (F l) (ρ l) (m9 k l) := fun l => by
  unfold m9
  split
  · exact h _ _ _ _ _ _ _ _ _
  · exact True.intro
theorem sm10 {β : Type} {F : List D → Res (Ctl × DEnv)} {k : D → D → D → D → D → D → D → D → D → D → Res β} {I : β → Ctl → DEnv → Prop} (h : ∀ x0 x1 x2 x3 x4 x5 x6 x7 x8 x9, Sim (F [x0, x1, x2, x3, x4, x5, x6, x7, x8, x9]) (k x0 x1 x2 x3 x4 x5 x6 x7 x8 x9) I) : ∀ l, Sim (F l) (m10 k l) I := fun l => by
  unfold m10
  split
  · exact h _ _ _ _ _ _ _ _ _ _
  · exact True.intro
theorem em10 {α : Type} {F : List D → Res (α × DEnv)} {ρ : List D → DEnv} {k : D → D → D → D → D → D → D → D → D → D → Res α} (h : ∀ x0 x1 x2 x3 x4 x5 x6 x7 x8 x9, EvR (F [x0, x1, x2, x3, x4, x5, x6, x7, x8, x9]) (ρ [x0, x1, x2, x3, x4, x5, x6, x7, x8, x9]) (k x0 x1 x2 x3 x4 x5 x6 x7 x8 x9)) : ∀ l, EvR (F l) (ρ l) (m10 k l) := fun l => by
  unfold m10
  split
  · exact h _ _ _ _ _ _ _ _ _ _
  · exact True.intro
theorem sm11 {β : Type} {F : List D → Res (Ctl × DEnv)} {k : D → D → D → D → D → D → D → D → D → D → D → Res β} {I : β → Ctl → DEnv → Prop} (h : ∀ x0 x1 x2 x3 x4 x5 x6 x7 x8 x9 x10, Sim (F [x0, x1, x2, x3, x4, x5, x6, x7, x8, x9, x10]) (k x0 x1 x2 x3 x4 x5 x6 x7 x8 x9 x10) I) : ∀ l, Sim (F l) (m11 k l) I := fun l => by
  unfold m11
  split
  · exact h _ _ _ _ _ _ _ _ _ _ _
  · exact True.intro
theorem em11 {α : Type} {F : List D → Res (α × DEnv)} {ρ : List D → DEnv} {k : D → D → D → D → D → D → D → D → D → D → D → Res α} (h : ∀ x0 x1 x2 x3 x4 x5 x6 x7 x8 x9 x10, EvR (F [x0, x1, x2, x3, x4, x5, x6, x7, x8, x9, x10]) (ρ [x0, x1, x2, x3, x4, x5, x6, x7, x8, x9, x10]) (k x0 x1 x2 x3 x4 x5 x6 x7 x8 x9 x10)) : ∀ l, EvR (F l) (ρ l) (m11 k l) := fun l => by
  unfold m11
  split
  · exact h _ _ _ _ _ _ _ _ _ _ _
  · exact True.intro
theorem sm12 {β : Type} {F : List D → Res (Ctl × DEnv)} {k : D → D → D → D → D → D → D → D → D → D → D → D → Res β} {I : β → Ctl → DEnv → Prop} (h : ∀ x0 x1 x2 x3 x4 x5 x6 x7 x8 x9 x10 x11, Sim (F [x0, x1, x2, x3, x4, x5, x6, x7, x8, x9, x10, x11]) (k x0 x1 x2 x3 x4 x5 x6 x7 x8 x9 x10 x11) I) : ∀ l, Sim (F l) (m12 k l) I := fun l => by
  unfold m12
  split
  · exact h _ _ _ _ _ _ _ _ _ _ _ _
  · exact True.intro
theorem em12 {α : Type} {F : List D → Res (α × DEnv)} {ρ : List D → DEnv} {k : D → D → D → D → D → D → D → D → D → D → D → D → Res α} (h : ∀ x0 x1 x2 x3 x4 x5 x6 x7 x8 x9 x10 x11, EvR (F [x0, x1, x2, x3, x4, x5, x6, x7, x8, x9, x10, x11]) (ρ [x0, x1, x2, x3, x4, x5, x6, x7, x8, x9, x10, x11]) (k x0 x1 x2 x3 x4 x5 x6 x7 x8 x9 x10 x11)) : ∀ l, EvR (F l) (ρ l) (m12 k l) := fun l => by
  unfold m12
  split
  · exact h _ _ _ _ _ _ _ _ _ _ _ _
  · exact True.intro

/-! ## comprehensions, by the way data is taken apart -/
section
variable {ρ : DEnv}
theorem eCompT {N : Nat} {fi : EvA} {gt : EvG} {tt e : EvF} {t : Tg} {is vs : List Nat} {qi : Res (List D)} {kt ke : List D → Res D} (hi : Ev fi ρ qi) (hg : TgOk N gt t is) (ht : ∀ l, Ev tt (setL is l (wipeD ρ vs)) (kt l)) (he : ∀ l, Ev e (setL is l (wipeD ρ vs)) (ke l))
    (hN : ρ.length = N := by rfl) (hs : subL is vs = true := by rfl) (hno : noOwn ρ vs = true := by rfl) : Ev (mComp fi vs gt tt e) ρ (qcomp (fun d => bnd (pur (unp t d)) kt) (fun d => bnd (pur (unp t d)) ke) qi) := by
  refine eComp hi hN hg hs hno (fun d l h => by rw [h]; exact ht l) (fun d h => ?_) fun d l h => by rw [h]; exact he l
  cases hu : unp t d with
  | error e => rfl
  | ok l => exact absurd hu (h l)
theorem eComp1 {N j : Nat} {fi : EvA} {tt e : EvF} {vs : List Nat} {qi : Res (List D)} {kt ke : D → Res D} (hi : Ev fi ρ qi) (ht : ∀ d, Ev tt ((wipeD ρ vs).set j (some (Sl.dat d))) (kt d)) (he : ∀ d, Ev e ((wipeD ρ vs).set j (some (Sl.dat d))) (ke d))
    (hN : ρ.length = N := by rfl) (hj : Nat.blt j N = true := by rfl) (hs : subL [j] vs = true := by rfl) (hno : noOwn ρ vs = true := by rfl) : Ev (mComp fi vs (gN j) tt e) ρ (qcomp kt ke qi) := by
  refine eComp hi hN (tg_n (N := N) hj) hs hno (fun d l h => by cases h; exact ht d) (fun d h => ?_) fun d l h => by cases h; exact he d
  exact absurd rfl (h [d])
end

/-! ## defs -/
/-- what a def gives, and what is told of it -/
def RefR {α : Type} (x q : Res α) : Prop := match q with
  | .ok a => x = .ok a
  | .error .stuck => True
  | .error (.exc c fs _) => ∃ ρ, x = .error (.exc c fs ρ)
theorem Out.ref {α : Type} {x q : Res α} {w : Wx} {k : α → Prop} (r : RefR x q) (hw : ∀ c fs ρ ρ', w c fs ρ → w c fs ρ') (h : Out w q k) : Out w x k := by
  cases q with
  | ok a => have e : x = .ok a := r; rw [e]; exact h
  | error e => cases e with
    | stuck => exact h.elim
    | exc c fs ρ => obtain ⟨ρ', e⟩ := r; rw [e]; exact hw _ _ _ _ h
def IP (d : D) (c : Ctl) (_ : DEnv) : Prop := c = .rt d ∨ (c = .nx ∧ d = .none)
def IB (p : D × List D) (c : Ctl) (ρ : DEnv) : Prop := (c = .rt p.1 ∨ (c = .nx ∧ p.1 = .none)) ∧ ρ[0]? = some (some (Sl.ob true (.lst p.2)))
theorem ref_P {N : Nat} {b : EvS} {ds : List D} {q : Res D} (h : Sim (b (fnStart N ds)) q IP) : RefR (fnP N b ds) q := by
  unfold fnP
  cases q with
  | ok d =>
    obtain ⟨c, ρ, e, hc⟩ := h
    rw [e]
    rcases hc with hc | ⟨hc, hd⟩
    · subst hc; exact rfl
    · subst hc hd; exact rfl
  | error e => cases e with
    | stuck => exact True.intro
    | exc c fs r => obtain ⟨ρ', e⟩ := h; rw [e]; exact ⟨[], rfl⟩
theorem ref_B {N : Nat} {b : EvS} {xs ds : List D} {q : Res (D × List D)} {p : D × List D} (e0 : q = .ok p) (h : Sim (b (some (Sl.own true xs) :: fnStart (N - 1) ds)) q IB) : fnB N b xs ds = .ok p := by
  subst e0
  obtain ⟨c, ρ, e, hc, h0⟩ := h
  unfold fnB
  rw [e, bnd_ok]
  unfold fnEndB
  dsimp only
  rw [h0]
  obtain ⟨d, ys⟩ := p
  rcases hc with hc | ⟨hc, hd⟩
  · subst hc; rfl
  · subst hc; cases hd; rfl
theorem ref_L {N : Nat} {f : EvA} {ds : List D} {q : Res (List D)} (h : Ev f (fnStart N ds) q) : RefR (fnL N f ds) q := by
  unfold fnL
  cases q with
  | ok d => have e : f (fnStart N ds) = .ok (d, fnStart N ds) := h; rw [e]; exact rfl
  | error e => cases e with
    | stuck => exact True.intro
    | exc c fs r => have e : f (fnStart N ds) = .error (.exc c fs (fnStart N ds)) := h; rw [e]; exact ⟨[], rfl⟩
theorem ref_N {N : Nat} {f : EvN} {ds : List D} {q : Res OB} (h : Ev f (fnStart N ds) q) : RefR (fnN N f ds) q := by
  unfold fnN
  cases q with
  | ok d => have e : f (fnStart N ds) = .ok (d, fnStart N ds) := h; rw [e]; exact rfl
  | error e => cases e with
    | stuck => exact True.intro
    | exc c fs r => have e : f (fnStart N ds) = .error (.exc c fs (fnStart N ds)) := h; rw [e]; exact ⟨[], rfl⟩
theorem spP_ref {K : PySem.W.Frag} {n : Nat} {m q : List D → Res D} (r : ∀ ds, RefR (m ds) (q ds)) : ∀ vs H Q E, spP K n q vs H Q E → spP K n m vs H Q E := fun vs H Q E ⟨h, M, ds, h1, h2, h3⟩ => ⟨h, M, ds, h1, h2, h3.ref (r ds) fun _ _ _ _ z => z⟩
theorem spL_ref {K : PySem.W.Frag} {n : Nat} {m q : List D → Res (List D)} (r : ∀ ds, RefR (m ds) (q ds)) : ∀ vs H Q E, spL K n q vs H Q E → spL K n m vs H Q E := fun vs H Q E ⟨h, M, ds, h1, h2, h3⟩ => ⟨h, M, ds, h1, h2, h3.ref (r ds) fun _ _ _ _ z => z⟩
theorem spN_ref {K : PySem.W.Frag} {n : Nat} {m q : List D → Res OB} (r : ∀ ds, RefR (m ds) (q ds)) : ∀ vs H Q E, spN K n q vs H Q E → spN K n m vs H Q E := fun vs H Q E ⟨h, M, ds, h1, h2, h3⟩ => ⟨h, M, ds, h1, h2, h3.ref (r ds) fun _ _ _ _ z => z⟩
theorem spB_ref {K : PySem.W.Frag} {n : Nat} {m q : List D → List D → Res (D × List D)} (r : ∀ xs ds p, q xs ds = .ok p → m xs ds = .ok p) : ∀ vs H Q E, spB K n q vs H Q E → spB K n m vs H Q E :=
  fun vs H Q E ⟨h, M, b, bvs, vs', xs, ds, d, xs', h1, h2, h3, h4, h5, h6, h7, h8⟩ => ⟨h, M, b, bvs, vs', xs, ds, d, xs', h1, h2, h3, h4, h5, h6, r _ _ _ h7, h8⟩
theorem rm1 {α : Type} {m : List D → Res α} {k : D → Res α} (h : ∀ x0, RefR (m [x0]) (k x0)) : ∀ ds, RefR (m ds) (m1 k ds) := fun ds => by
  unfold m1
  split
  · exact h _
  · exact True.intro
theorem bm1 {α : Type} {m : List D → Res α} {k : D → Res α} (h : ∀ x0 p, k x0 = .ok p → m [x0] = .ok p) : ∀ ds p, m1 k ds = .ok p → m ds = .ok p := fun ds p e => by
  unfold m1 at e
  split at e
  · exact h _ p e
  · cases e
theorem rm2 {α : Type} {m : List D → Res α} {k : D → D → Res α} (h : ∀ x0 x1, RefR (m [x0, x1]) (k x0 x1)) : ∀ ds, RefR (m ds) (m2 k ds) := fun ds => by
  unfold m2
  split
  · exact h _ _
  · exact True.intro
theorem bm2 {α : Type} {m : List D → Res α} {k : D → D → Res α} (h : ∀ x0 x1 p, k x0 x1 = .ok p → m [x0, x1] = .ok p) : ∀ ds p, m2 k ds = .ok p → m ds = .ok p := fun ds p e => by
  unfold m2 at e
  split at e
  · exact h _ _ p e
  · cases e
theorem rm3 {α : Type} {m : List D → Res α} {k : D → D → D → Res α} (h : ∀ x0 x1 x2, RefR (m [x0, x1, x2]) (k x0 x1 x2)) : ∀ ds, RefR (m ds) (m3 k ds) := fun ds => by
  unfold m3
  split
  · exact h _ _ _
  · exact True.intro
theorem bm3 {α : Type} {m : List D → Res α} {k : D → D → D → Res α} (h : ∀ x0 x1 x2 p, k x0 x1 x2 = .ok p → m [x0, x1, x2] = .ok p) : ∀ ds p, m3 k ds = .ok p → m ds = .ok p := fun ds p e => by
  unfold m3 at e
  split at e
  · exact h _ _ _ p e
  · cases e
theorem rm4 {α : Type} {m : List D → Res α} {k : D → D → D → D → Res α} (h : ∀ x0 x1 x2 x3, RefR (m [x0, x1, x2, x3]) (k x0 x1 x2 x3)) : ∀ ds, RefR (m ds) (m4 k ds) := fun ds => by
  unfold m4
  split
  · exact h _ _ _ _
  · exact True.intro
theorem bm4 {α : Type} {m : List D → Res α} {k : D → D → D → D → Res α} (h : ∀ x0 x1 x2 x3 p, k x0 x1 x2 x3 = .ok p → m [x0, x1, x2, x3] = .ok p) : ∀ ds p, m4 k ds = .ok p → m ds = .ok p := fun ds p e => by
  unfold m4 at e
  split at e
  · exact h _ _ _ _ p e
  · cases e
theorem rm5 {α : Type} {m : List D → Res α} {k : D → D → D → D → D → Res α} (h : ∀ x0 x1 x2 x3 x4, RefR (m [x0, x1, x2, x3, x4]) (k x0 x1 x2 x3 x4)) : ∀ ds, RefR (m ds) (m5 k ds) := fun ds => by
  unfold m5
  split
  · exact h _ _ _ _ _
  · exact True.intro
theorem bm5 {α : Type} {m : List D → Res α} {k : D → D → D → D → D → Res α} (h : ∀ x0 x1 x2 x3 x4 p, k x0 x1 x2 x3 x4 = .ok p → m [x0, x1, x2, x3, x4] = .ok p) : ∀ ds p, m5 k ds = .ok p → m ds = .ok p := fun ds p e => by
  unfold m5 at e
  split at e
  · exact h _ _ _ _ _ p e
  · cases e
theorem rm6 {α : Type} {m : List D → Res α} {k : D → D → D → D → D → D → Res α} (h : ∀ x0 x1 x2 x3 x4 x5, RefR (m [x0, x1, x2, x3, x4, x5]) (k x0 x1 x2 x3 x4 x5)) : ∀ ds, RefR (m ds) (m6 k ds) := fun ds => by
  unfold m6
  split
  · exact h _ _ _ _ _ _
  · exact True.intro
theorem bm6 {α : Type} {m : List D → Res α} {k : D → D → D → D → D → D → Res α} (h : ∀ x0 x1 x2 x3 x4 x5 p, k x0 x1 x2 x3 x4 x5 = .ok p → m [x0, x1, x2, x3, x4, x5] = .ok p) : ∀ ds p, m6 k ds = .ok p → m ds = .ok p := fun ds p e => by
  unfold m6 at e
  split at e
  · exact h _ _ _ _ _ _ p e
  · cases e
theorem rm7 {α : Type} {m : List D → Res α} {k : D → D → D → D → D → D → D → Res α} (h : ∀ x0 x1 x2 x3 x4 x5 x6, RefR (m [x0, x1, x2, x3, x4, x5, x6]) (k x0 x1 x2 x3 x4 x5 x6)) : ∀ ds, RefR (m ds) (m7 k ds) := fun ds => by
  unfold m7
  split
  · exact h _ _ _ _ _ _ _
  · exact True.intro
theorem bm7 {α : Type} {m : List D → Res α} {k : D → D → D → D → D → D → D → Res α} (h : ∀ x0 x1 x2 x3 x4 x5 x6 p, k x0 x1 x2 x3 x4 x5 x6 = .ok p → m [x0, x1, x2, x3, x4, x5, x6] = .ok p) : ∀ ds p, m7 k ds = .ok p → m ds = .ok p := fun ds p e => by
  unfold m7 at e
  split at e
  · exact h _ _ _ _ _ _ _ p e
  · cases e
theorem rm8 {α : Type} {m : List D → Res α} {k : D → D → D → D → D → D → D → D → Res α} (h : ∀ x0 x1 x2 x3 x4 x5 x6 x7, RefR (m [x0, x1, x2, x3, x4, x5, x6, x7]) (k x0 x1 x2 x3 x4 x5 x6 x7)) : ∀ ds, RefR (m ds) (m8 k ds) := fun ds => by
  unfold m8
  split
  · exact h _ _ _ _ _ _ _ _
  · exact True.intro
theorem bm8 {α : Type} {m : List D → Res α} {k : D → D → D → D → D → D → D → D → Res α} (h : ∀ x0 x1 x2 x3 x4 x5 x6 x7 p, k x0 x1 x2 x3 x4 x5 x6 x7 = .ok p → m [x0, x1, x2, x3, x4, x5, x6, x7] = .ok p) : ∀ ds p, m8 k ds = .ok p → m ds = .ok p := fun ds p e => by
  unfold m8 at e
  split at e
  · exact h _ _ _ _ _ _ _ _ p e
  · cases e
theorem rm9 {α : Type} {m : List D → Res α} {k : D → D → D → D → D → D → D → D → D → Res α} (h : ∀ x0 x1 x2 x3 x4 x5 x6 x7 x8, RefR (m [x0, x1, x2, x3, x4, x5, x6, x7, x8]) (k x0 x1 x2 x3 x4 x5 x6 x7 x8)) : ∀ ds, RefR (m ds) (m9 k ds) := fun ds => by
  unfold m9
  split
  · exact h _ _ _ _ _ _ _ _ _
  · exact True.intro
theorem bm9 {α : Type} {m : List D → Res α} {k : D → D → D → D → D → D → D → D → D → Res α} (h : ∀ x0 x1 x2 x3 x4 x5 x6 x7 x8 p, k x0 x1 x2 x3 x4 x5 x6 x7 x8 = .ok p → m [x0, x1, x2, x3, x4, x5, x6, x7, x8] = .ok p) : ∀ ds p, m9 k ds = .ok p → m ds = .ok p := fun ds p e => by
  unfold m9 at e
  split at e
  · exact h _ _ _ _ _ _ _ _ _ p e
  · cases e
theorem rm10 {α : Type} {m : List D → Res α} {k : D → D → D → D → D → D → D → D → D → D → Res α} (h : ∀ x0 x1 x2 x3 x4 x5 x6 x7 x8 x9, RefR (m [x0, x1, x2, x3, x4, x5, x6, x7, x8, x9]) (k x0 x1 x2 x3 x4 x5 x6 x7 x8 x9)) : ∀ ds, RefR (m ds) (m10 k ds) := fun ds => by
  unfold m10
  split
  · exact h _ _ _ _ _ _ _ _ _ _
  · exact True.intro
theorem bm10 {α : Type} {m : List D → Res α} {k : D → D → D → D → D → D → D → D → D → D → Res α} (h : ∀ x0 x1 x2 x3 x4 x5 x6 x7 x8 x9 p, k x0 x1 x2 x3 x4 x5 x6 x7 x8 x9 = .ok p → m [x0, x1, x2, x3, x4, x5, x6, x7, x8, x9] = .ok p) : ∀ ds p, m10 k ds = .ok p → m ds = .ok p := fun ds p e => by
  unfold m10 at e
  split at e
  · exact h _ _ _ _ _ _ _ _ _ _ p e
  · cases e
theorem rm11 {α : Type} {m : List D → Res α} {k : D → D → D → D → D → D → D → D → D → D → D → Res α} (h : ∀ x0 x1 x2 x3 x4 x5 x6 x7 x8 x9 x10, RefR (m [x0, x1, x2, x3, x4, x5, x6, x7, x8, x9, x10]) (k x0 x1 x2 x3 x4 x5 x6 x7 x8 x9 x10)) : ∀ ds, RefR (m ds) (m11 k ds) := fun ds => by
  unfold m11
  split
  · exact h _ _ _ _ _ _ _ _ _ _ _
  · exact True.intro
theorem bm11 {α : Type} {m : List D → Res α} {k : D → D → D → D → D → D → D → D → D → D → D → Res α} (h : ∀ x0 x1 x2 x3 x4 x5 x6 x7 x8 x9 x10 p, k x0 x1 x2 x3 x4 x5 x6 x7 x8 x9 x10 = .ok p → m [x0, x1, x2, x3, x4, x5, x6, x7, x8, x9, x10] = .ok p) : ∀ ds p, m11 k ds = .ok p → m ds = .ok p := fun ds p e => by
  unfold m11 at e
  split at e
  · exact h _ _ _ _ _ _ _ _ _ _ _ p e
  · cases e
theorem rm12 {α : Type} {m : List D → Res α} {k : D → D → D → D → D → D → D → D → D → D → D → D → Res α} (h : ∀ x0 x1 x2 x3 x4 x5 x6 x7 x8 x9 x10 x11, RefR (m [x0, x1, x2, x3, x4, x5, x6, x7, x8, x9, x10, x11]) (k x0 x1 x2 x3 x4 x5 x6 x7 x8 x9 x10 x11)) : ∀ ds, RefR (m ds) (m12 k ds) := fun ds => by
  unfold m12
  split
  · exact h _ _ _ _ _ _ _ _ _ _ _ _
  · exact True.intro
theorem bm12 {α : Type} {m : List D → Res α} {k : D → D → D → D → D → D → D → D → D → D → D → D → Res α} (h : ∀ x0 x1 x2 x3 x4 x5 x6 x7 x8 x9 x10 x11 p, k x0 x1 x2 x3 x4 x5 x6 x7 x8 x9 x10 x11 = .ok p → m [x0, x1, x2, x3, x4, x5, x6, x7, x8, x9, x10, x11] = .ok p) : ∀ ds p, m12 k ds = .ok p → m ds = .ok p := fun ds p e => by
  unfold m12 at e
  split at e
  · exact h _ _ _ _ _ _ _ _ _ _ _ _ p e
  · cases e
@[simp] def m0 {α : Type} (k : Res α) : List D → Res α
  | [] => k
  | _ => stuck
theorem rm0 {α : Type} {m : List D → Res α} {k : Res α} (h : RefR (m []) k) : ∀ ds, RefR (m ds) (m0 k ds) := fun ds => by
  cases ds with
  | nil => exact h
  | cons d ds => exact True.intro
theorem bm0 {α : Type} {m : List D → Res α} {k : Res α} (h : ∀ p, k = .ok p → m [] = .ok p) : ∀ ds p, m0 k ds = .ok p → m ds = .ok p := fun ds p e => by
  cases ds with
  | nil => exact h p e
  | cons d ds => cases e
end L2.DL

namespace L2.DL
open PySem PySem.Spec PyProof.Rows

/-! ## expressions that change a list of the def's own -/
section
variable {α β S : Type} {R : S → DEnv}
theorem EvX.bnd {x : Res (α × DEnv)} {q : Res (α × S)} {F : α × DEnv → Res (β × DEnv)} {k : α × S → Res (β × S)} (h : EvX R x q) (hk : ∀ a s, EvX R (F (a, R s)) (k (a, s))) : EvX R (DL.bnd x F) (DL.bnd q k) := by
  cases q with
  | ok p => have e : x = .ok (p.1, R p.2) := h; rw [e]; exact hk p.1 p.2
  | error e =>
    cases e with
    | stuck => exact True.intro
    | exc c fs r => obtain ⟨ρ', e⟩ := h; rw [e]; exact ⟨ρ', rfl⟩
theorem EvX.pur {γ : Type} {t : Res γ} {F : γ → Res (β × DEnv)} {k : γ → Res (β × S)} (hk : ∀ a, EvX R (F a) (k a)) : EvX R (DL.bnd (DL.pur t) F) (DL.bnd (DL.pur t) k) := by
  cases t with
  | ok a => exact hk a
  | error e => exact True.intro
theorem EvX.ok {a : α} {s : S} : EvX R (.ok (a, R s)) (.ok (a, s)) := rfl
end
@[simp] def xl {α S : Type} (s : S) (a : Res α) : Res (α × S) := bnd a fun x => .ok (x, s)
section
variable {S : Type}
@[simp] def x1 {α : Type} (g : D → Res α) (a : Res (D × S)) : Res (α × S) := bnd a fun p => bnd (pur (g p.1)) fun z => .ok (z, p.2)
@[simp] def x2 (g : D → D → Res D) (a : Res (D × S)) (b : S → Res (D × S)) : Res (D × S) := bnd a fun p => bnd (b p.2) fun r => bnd (pur (g p.1 r.1)) fun z => .ok (z, r.2)
@[simp] def xcmp (g : D → D → Res Bool) (a : Res (D × S)) (b : S → Res (D × S)) : Res (D × S) := bnd a fun p => bnd (b p.2) fun r => bnd (pur (g p.1 r.1)) fun z => .ok (.bool z, r.2)
@[simp] def xcons (a : Res (D × S)) (b : S → Res (List D × S)) : Res (List D × S) := bnd a fun p => bnd (b p.2) fun r => .ok (p.1 :: r.1, r.2)
@[simp] def xtup (l : Res (List D × S)) : Res (D × S) := bnd l fun p => if p.1.length ≤ 1000 then .ok (.tuple p.1, p.2) else stuck
@[simp] def xlst (l : Res (List D × S)) : Res (List D × S) := bnd l fun p => if p.1.length ≤ 1000 then .ok p else stuck
@[simp] def xofL (l : Res (List D × S)) : Res (D × S) := bnd l fun p => .ok (.list p.1, p.2)
@[simp] def xseq (a : Res (D × S)) : Res (List D × S) := bnd a fun p => bnd (pur (seqD p.1)) fun z => .ok (z.2, p.2)
@[simp] def xv {α : Type} (g : Bool × List D → Res α) (v : Res ((Bool × List D) × S)) : Res (α × S) := bnd v fun p => bnd (pur (g p.1)) fun z => .ok (z, p.2)
@[simp] def xds (g : List D → Res D) (l : Res (List D × S)) : Res (D × S) := bnd l fun p => bnd (pur (g p.1)) fun z => .ok (z, p.2)
@[simp] def xlim (l : Res (List D × S)) : Res (List D × S) := bnd l fun p => if p.1.length ≤ lim then .ok p else stuck
@[simp] def xtupL (l : Res (List D × S)) : Res (D × S) := bnd l fun p => .ok (.tuple p.1, p.2)
@[simp] def xcall {α : Type} (n : Nat) (m : List D → Res α) (l : Res (List D × S)) : Res (α × S) := bnd l fun p => if p.1.length = n then bnd (m p.1) fun d => .ok (d, p.2) else stuck
@[simp] def xcallB (n : Nat) (m : List D → List D → Res (D × List D)) (get : S → List D) (put : S → List D → S) (l : Res (List D × S)) : Res (D × S) := bnd l fun p => if p.1.length + 1 = n then bnd (pur (m (get p.2) p.1)) fun r => .ok (r.1, put p.2 r.2) else stuck
@[simp] def popQ (xs : List D) (y : D) : Res (D × List D) := match y with
  | .int k => if -1000000 ≤ k ∧ k ≤ 1000000 then (match ixN xs.length k with
    | some j => match xs[j]? with
      | some d => .ok (d, xs.eraseIdx j)
      | none => stuck
    | none => stuck) else stuck
  | _ => stuck
@[simp] def xpop (get : S → List D) (put : S → List D → S) (a : Res (D × S)) : Res (D × S) := bnd a fun p => bnd (popQ (get p.2) p.1) fun r => .ok (r.1, put p.2 r.2)
@[simp] def xif {α : Type} (c : Res (D × S)) (a b : S → Res (α × S)) : Res (α × S) := bnd c fun p => qsel p.1 (a p.2) (b p.2)
@[simp] def xand (c : Res (D × S)) (a : S → Res (D × S)) : Res (D × S) := bnd c fun p => qsel p.1 (a p.2) (.ok (.bool false, p.2))
@[simp] def xor (c : Res (D × S)) (a : S → Res (D × S)) : Res (D × S) := bnd c fun p => qsel p.1 (.ok (.bool true, p.2)) (a p.2)
@[simp] def xsl (a : Res (D × S)) (lo hi : S → Res (Option Int × S)) : Res (D × S) := bnd a fun p => bnd (lo p.2) fun l => bnd (hi l.2) fun h => bnd (pur (slD p.1 l.1 h.1)) fun z => .ok (z, h.2)
@[simp] def xslL (a : Res (D × S)) (lo hi : S → Res (Option Int × S)) : Res (List D × S) := bnd a fun p => bnd (lo p.2) fun l => bnd (hi l.2) fun h => match p.1 with | .list xs => .ok (cutD xs l.1 h.1, h.2) | _ => stuck
@[simp] def xso (a : Res (D × S)) : Res (Option Int × S) := bnd a fun p => match p.1 with | .int i => .ok (some i, p.2) | _ => stuck
def compX (test elt : S → D → Res (D × S)) : List D → S → Res (List D × S)
  | [], s => .ok ([], s)
  | d :: ds, s => bnd (pur (test s d)) fun b => qsel b.1 (bnd (pur (elt b.2 d)) fun x => bnd (compX test elt ds x.2) fun z => .ok (x.1 :: z.1, z.2)) (compX test elt ds b.2)
@[simp] def xcomp (test elt : S → D → Res (D × S)) (it : Res (List D × S)) : Res (List D × S) := bnd it fun p => if p.1.length ≤ lim then compX test elt p.1 p.2 else stuck
end
section
variable {S : Type} {R : S → DEnv} {s : S} {i n : Nat} {g : D → D → Res D} {gb : D → D → Res Bool} {f fa fb fc : EvF} {fs : EvA} {fv : EvV} {fl fh : EvO} {qa qc : Res (D × S)} {q_b : S → Res (D × S)} {ql : Res (List D × S)} {qv' : Res ((Bool × List D) × S)} {bb : Bool}
theorem xLift {α : Type} {x : Res (α × DEnv)} {q : Res α} (h : EvR x (R s) q) : EvX R x (xl s q) := by
  cases q with
  | ok a => have e : x = .ok (a, R s) := h; rw [e]; exact rfl
  | error e => cases e with
    | stuck => exact True.intro
    | exc c fs r => have e : x = .error (.exc c fs (R s)) := h; rw [e]; exact ⟨R s, rfl⟩
theorem xUn {h1 : D → Res D} (a : EvX R (fa (R s)) qa) : EvX R (mUn h1 fa (R s)) (x1 h1 qa) := EvX.bnd a fun _ _ => EvX.pur fun _ => EvX.ok
theorem xOp (a : EvX R (fa (R s)) qa) (b : ∀ s, EvX R (fb (R s)) (q_b s)) : EvX R (mOp g fa fb (R s)) (x2 g qa q_b) := EvX.bnd a fun _ s => EvX.bnd (b s) fun _ _ => EvX.pur fun _ => EvX.ok
theorem xCmp (a : EvX R (fa (R s)) qa) (b : ∀ s, EvX R (fb (R s)) (q_b s)) : EvX R (mCmp gb fa fb (R s)) (xcmp gb qa q_b) := EvX.bnd a fun _ s => EvX.bnd (b s) fun _ _ => EvX.pur fun _ => EvX.ok
theorem xCons {qs : S → Res (List D × S)} (a : EvX R (fa (R s)) qa) (b : ∀ s, EvX R (fs (R s)) (qs s)) : EvX R (mCons fa fs (R s)) (xcons qa qs) := EvX.bnd a fun _ s => EvX.bnd (b s) fun _ _ => EvX.ok
theorem xTup (a : EvX R (fs (R s)) ql) : EvX R (mTup fs (R s)) (xtup ql) := EvX.bnd a fun xs s => by
  dsimp only
  by_cases h : xs.length ≤ 1000
  · rw [if_pos h, if_pos h]; exact EvX.ok
  · rw [if_neg h, if_neg h]; exact True.intro
theorem xLst (a : EvX R (fs (R s)) ql) : EvX R (mLst fs (R s)) (xlst ql) := EvX.bnd a fun xs s => by
  dsimp only
  by_cases h : xs.length ≤ 1000
  · rw [if_pos h, if_pos h]; exact EvX.ok
  · rw [if_neg h, if_neg h]; exact True.intro
theorem xOfL (a : EvX R (fs (R s)) ql) : EvX R (mOfL fs (R s)) (xofL ql) := EvX.bnd a fun _ _ => EvX.ok
theorem xView (a : EvX R (fa (R s)) qa) : EvX R (mView fa (R s)) (x1 seqD qa) := EvX.bnd a fun _ _ => EvX.pur fun _ => EvX.ok
theorem xSeqI (a : EvX R (fa (R s)) qa) : EvX R (mSeqI fa (R s)) (xseq qa) := EvX.bnd a fun _ _ => EvX.pur fun _ => EvX.ok
theorem xMV {gv : Bool × List D → Res D} (a : EvX R (fv (R s)) qv') : EvX R (mV gv fv (R s)) (xv gv qv') := EvX.bnd a fun _ _ => EvX.pur fun _ => EvX.ok
theorem xMVL {gv : Bool × List D → Res (List D)} (a : EvX R (fv (R s)) qv') : EvX R (mVL gv fv (R s)) (xv gv qv') := EvX.bnd a fun _ _ => EvX.pur fun _ => EvX.ok
theorem xDs {gd : List D → Res D} (a : EvX R (fs (R s)) ql) : EvX R (mDs gd fs (R s)) (xds gd ql) := EvX.bnd a fun _ _ => EvX.pur fun _ => EvX.ok
theorem xRng1 (a : EvX R (fa (R s)) qa) : EvX R (mRng1 fa (R s)) (x1 rng1 qa) := EvX.bnd a fun _ _ => EvX.pur fun _ => EvX.ok
theorem xLRg (a : EvX R (fs (R s)) ql) : EvX R (mLRg fs (R s)) (xlim ql) := EvX.bnd a fun xs s => by
  show EvX R (kLim (xs, R s)) _
  unfold kLim
  dsimp only
  by_cases h : xs.length ≤ lim
  · rw [if_pos h, if_pos h]; exact EvX.ok
  · rw [if_neg h, if_neg h]; exact True.intro
theorem xTupL (a : EvX R (fs (R s)) ql) : EvX R (mTupL fs (R s)) (xtupL ql) := EvX.bnd a fun _ _ => EvX.ok
theorem xCallG {α : Type} {m : List D → Res α} {x : Res (List D × DEnv)} (a : EvX R x ql) : EvX R (DL.bnd x fun p => if p.1.length = n then DL.bnd (atR p.2 (m p.1)) fun d => .ok (d, p.2) else stuck) (xcall n m ql) := EvX.bnd a fun xs s => by
  dsimp only
  by_cases h : xs.length = n
  · rw [if_pos h, if_pos h]
    cases m xs with
    | ok d => exact EvX.ok
    | error e => cases e with
      | stuck => exact True.intro
      | exc c fs r => exact ⟨R s, rfl⟩
  · rw [if_neg h, if_neg h]; exact True.intro
theorem xCall {m : List D → Res D} (a : EvX R (fs (R s)) ql) : EvX R (mCall n m fs (R s)) (xcall n m ql) := xCallG a
theorem xCallL {m : List D → Res (List D)} (a : EvX R (fs (R s)) ql) : EvX R (mCallL n m fs (R s)) (xcall n m ql) := xCallG a
theorem xCallN {m : List D → Res OB} (a : EvX R (fs (R s)) ql) : EvX R (mCallN n m fs (R s)) (xcall n m ql) := xCallG a
theorem xCallB {m : List D → List D → Res (D × List D)} {get : S → List D} {put : S → List D → S} (a : EvX R (fs (R s)) ql) (h0 : ∀ s, (R s)[i]? = some (some (Sl.ob bb (.lst (get s)))) := by intro _; rfl) (hp : ∀ s l, (R s).set i (some (Sl.ob bb (.lst l))) = R (put s l) := by intro _ _; rfl) :
    EvX R (mCallB n m i fs (R s)) (xcallB n m get put ql) := by
  unfold mCallB
  rw [ownAt2_of (h0 s), pur_ok, bnd_ok]
  refine EvX.bnd a fun xs s => ?_
  dsimp only
  rw [ownAt2_of (h0 s), pur_ok, bnd_ok]
  by_cases h : xs.length + 1 = n
  · rw [if_pos h, if_pos h]
    refine EvX.pur fun r => ?_
    dsimp only
    rw [hp]
    exact EvX.ok
  · rw [if_neg h, if_neg h]; exact True.intro
theorem xPop {get : S → List D} {put : S → List D → S} (a : EvX R (fa (R s)) qa) (h0 : ∀ s, (R s)[i]? = some (some (Sl.ob bb (.lst (get s)))) := by intro _; rfl) (hp : ∀ s l, (R s).set i (some (Sl.ob bb (.lst l))) = R (put s l) := by intro _ _; rfl) :
    EvX R (mPopAt i fa (R s)) (xpop get put qa) := by
  unfold mPopAt
  rw [ownAt2_of (h0 s), pur_ok, bnd_ok]
  refine EvX.bnd a fun d s => ?_
  dsimp only
  rw [ownAt2_of (h0 s), pur_ok, bnd_ok]
  cases d with
  | int k =>
    unfold popQ
    dsimp only
    by_cases h : -1000000 ≤ k ∧ k ≤ 1000000
    · rw [if_pos h, if_pos h]
      cases ixN (get s).length k with
      | none => exact True.intro
      | some j =>
        dsimp only
        cases (get s)[j]? with
        | none => exact True.intro
        | some d =>
          dsimp only
          rw [hp]
          exact EvX.ok
    · rw [if_neg h, if_neg h]; exact True.intro
  | _ => exact True.intro
theorem xSel {α : Type} {x y : Res (α × DEnv)} {p q : Res (α × S)} (d : D) (ha : EvX R x p) (hb : EvX R y q) : EvX R (match d with | .bool true => x | .bool false => y | _ => stuck) (qsel d p q) := by
  cases d with
  | bool k => cases k <;> assumption
  | _ => exact True.intro
theorem xIf {qa q_b : S → Res (D × S)} (c : EvX R (fc (R s)) qc) (a : ∀ s, EvX R (fa (R s)) (qa s)) (b : ∀ s, EvX R (fb (R s)) (q_b s)) : EvX R (mIf fc fa fb (R s)) (xif qc qa q_b) := EvX.bnd c fun d s => xSel d (a s) (b s)
theorem xAnd (c : EvX R (fc (R s)) qc) (b : ∀ s, EvX R (fb (R s)) (q_b s)) : EvX R (mAnd fc fb (R s)) (xand qc q_b) := EvX.bnd c fun d s => xSel d (b s) EvX.ok
theorem xOr (c : EvX R (fc (R s)) qc) (b : ∀ s, EvX R (fb (R s)) (q_b s)) : EvX R (mOr fc fb (R s)) (xor qc q_b) := EvX.bnd c fun d s => xSel d EvX.ok (b s)
theorem xSo (a : EvX R (fa (R s)) qa) : EvX R (mSo fa (R s)) (xso qa) := EvX.bnd a fun d s => by
  cases d with
  | int i => exact rfl
  | _ => exact True.intro
theorem xSl {lo hi : S → Res (Option Int × S)} (a : EvX R (fa (R s)) qa) (b : ∀ s, EvX R (fl (R s)) (lo s)) (c : ∀ s, EvX R (fh (R s)) (hi s)) : EvX R (mSl fa fl fh (R s)) (xsl qa lo hi) := EvX.bnd a fun _ s => EvX.bnd (b s) fun _ s => EvX.bnd (c s) fun _ _ => EvX.pur fun _ => EvX.ok
theorem xSlL {lo hi : S → Res (Option Int × S)} (a : EvX R (fa (R s)) qa) (b : ∀ s, EvX R (fl (R s)) (lo s)) (c : ∀ s, EvX R (fh (R s)) (hi s)) : EvX R (mSlL fa fl fh (R s)) (xslL qa lo hi) := EvX.bnd a fun x s => EvX.bnd (b s) fun _ s => EvX.bnd (c s) fun _ _ => by
  cases x with
  | list xs => exact rfl
  | _ => exact True.intro
/-- a comprehension whose steps change a list of the def's own -/
theorem xComp {N : Nat} {fi : EvA} {gt : EvG} {tt e : EvF} {t : Tg} {is vs : List Nat} {test elt : S → D → Res (D × S)} (hi : EvX R (fi (R s)) ql) (hg : TgOk N gt t is)
    (ht : ∀ d l s, unp t d = .ok l → EvX (fun s => setL is l (wipeD (R s) vs)) (tt (setL is l (wipeD (R s) vs))) (test s d)) (hu : ∀ s d, (∀ l, unp t d ≠ .ok l) → test s d = stuck)
    (he : ∀ d l s, unp t d = .ok l → EvX (fun s => setL is l (wipeD (R s) vs)) (e (setL is l (wipeD (R s) vs))) (elt s d))
    (hN : ∀ s, (R s).length = N := by intro _; rfl) (hs : subL is vs = true := by rfl) (hno : ∀ s, noOwn (R s) vs = true := by intro _; rfl) (hr : ∀ s s', restD (wipeD (R s') vs) (R s) vs = R s' := by intro _ _; rfl) : EvX R (mComp fi vs gt tt e (R s)) (xcomp test elt ql) := by
  refine EvX.bnd hi fun ds s => ?_
  dsimp only
  by_cases hl : ds.length ≤ lim
  · rw [if_pos ⟨hl, hno s⟩, if_pos hl]
    have key : ∀ (ds : List D) (s : S), (∀ zs s', compX test elt ds s = .ok (zs, s') → compL gt tt e vs ds (wipeD (R s) vs) = .ok (zs, wipeD (R s') vs)) ∧ ∀ c fs r, compX test elt ds s ≠ .error (.exc c fs r) := by
      intro ds
      induction ds with
      | nil => exact fun s => ⟨fun zs s' h => by cases h; rfl, fun c fs r h => by cases h⟩
      | cons d ds ih =>
        intro s
        cases hup : unp t d with
        | error er =>
          have hst := hu s d (fun l z => by rw [hup] at z; cases z)
          constructor
          · intro zs s' h
            rw [compX, hst] at h
            cases h
          · intro c fs r h
            rw [compX, hst] at h
            cases h
        | ok l =>
          have h1 := ht d l s hup
          have hgd := (hg.run d (wipeD (R s) vs) l (by rw [wipeD_len]; exact hN s) hup).2
          rw [compX]
          cases hb : test s d with
          | error er => exact ⟨fun zs s' h => (by rw [pur_err] at h; cases h), fun c fs r h => (by rw [pur_err] at h; cases h)⟩
          | ok p =>
            obtain ⟨bd, s1⟩ := p
            have e1 : tt (setL is l (wipeD (R s) vs)) = .ok (bd, setL is l (wipeD (R s1) vs)) := by rw [hb] at h1; exact h1
            rw [pur_ok, bnd_ok]
            cases bd with
            | bool k =>
              cases k with
              | true =>
                have h2 := he d l s1 hup
                show (∀ zs s', bnd (pur (elt s1 d)) _ = _ → _) ∧ ∀ c fs r, bnd (pur (elt s1 d)) _ ≠ _
                cases hx : elt s1 d with
                | error er => exact ⟨fun zs s' h => (by rw [pur_err] at h; cases h), fun c fs r h => (by rw [pur_err] at h; cases h)⟩
                | ok x =>
                  obtain ⟨x, s2⟩ := x
                  have e2 : e (setL is l (wipeD (R s1) vs)) = .ok (x, setL is l (wipeD (R s2) vs)) := by rw [hx] at h2; exact h2
                  have hw := wipe_setL (ρ := R s2) (l := l) (subL_ok hs)
                  obtain ⟨ih1, ih2⟩ := ih s2
                  rw [pur_ok, bnd_ok]
                  constructor
                  · intro zs s' h
                    obtain ⟨⟨ys, s3⟩, h3, h⟩ := bnd_inv h
                    cases h
                    rw [compL, hgd, pur_ok, bnd_ok, e1, bnd_ok]
                    dsimp only
                    rw [e2, bnd_ok]
                    dsimp only
                    rw [hw, ih1 ys _ h3]
                    rfl
                  · intro c fs r h
                    cases h3 : compX test elt ds s2 with
                    | ok ys => rw [h3] at h; cases h
                    | error er => rw [h3] at h; exact ih2 c fs r (by rw [h3]; cases er with | stuck => cases h | exc a b c' => cases h; rfl)
              | false =>
                have hw := wipe_setL (ρ := R s1) (l := l) (subL_ok hs)
                obtain ⟨ih1, ih2⟩ := ih s1
                refine ⟨fun zs s' h => ?_, ih2⟩
                rw [compL, hgd, pur_ok, bnd_ok, e1, bnd_ok]
                dsimp only
                rw [hw]
                exact ih1 zs s' h
            | _ => exact ⟨fun zs s' h => (by cases h), fun c fs r h => (by cases h)⟩
    obtain ⟨k1, k2⟩ := key ds s
    cases hq : compX test elt ds s with
    | ok p =>
      obtain ⟨zs, s'⟩ := p
      rw [k1 zs s' hq, pur_ok, bnd_ok]
      dsimp only
      rw [hr]
      exact EvX.ok
    | error er =>
      cases er with
      | stuck => exact True.intro
      | exc c fs r => exact absurd hq (k2 c fs r)
  · rw [if_neg fun z => hl z.1, if_neg hl]
    exact True.intro
theorem xComp1 {N j : Nat} {fi : EvA} {tt e : EvF} {vs : List Nat} {kt ke : S → D → Res (D × S)} (hi : EvX R (fi (R s)) ql) (ht : ∀ d s, EvX (fun s => (wipeD (R s) vs).set j (some (Sl.dat d))) (tt ((wipeD (R s) vs).set j (some (Sl.dat d)))) (kt s d))
    (he : ∀ d s, EvX (fun s => (wipeD (R s) vs).set j (some (Sl.dat d))) (e ((wipeD (R s) vs).set j (some (Sl.dat d)))) (ke s d))
    (hN : ∀ s, (R s).length = N := by intro _; rfl) (hj : Nat.blt j N = true := by rfl) (hs : subL [j] vs = true := by rfl) (hno : ∀ s, noOwn (R s) vs = true := by intro _; rfl) (hr : ∀ s s', restD (wipeD (R s') vs) (R s) vs = R s' := by intro _ _; rfl) : EvX R (mComp fi vs (gN j) tt e (R s)) (xcomp kt ke ql) :=
  xComp hi (tg_n (N := N) hj) (fun d l s h => by cases h; exact ht d s) (fun s d h => absurd rfl (h [d])) (fun d l s h => by cases h; exact he d s) hN hs hno hr
end
section
variable {β γ S : Type} {I : β → Ctl → DEnv → Prop} {ρ : DEnv} {rest : EvS} {R : S → DEnv}
/-- x, y = .. , each changing a list of the def's own -/
theorem sPar2X {i j : Nat} {f g : EvF} {qf : Res (D × S)} {qg : S → Res (D × S)} {k : D → D → S → Res β} (h : EvX R (f ρ) qf) (h2 : ∀ s, EvX R (g (R s)) (qg s)) (hk : ∀ a b s, Sim (rest (((R s).set j (some (Sl.dat b))).set i (some (Sl.dat a)))) (k a b s) I) (hi : ∀ s, bltAll [i, j] (R s).length = true := by intro _; rfl) :
    Sim (mSeq (mPar [i, j] [.d f, .d g]) rest ρ) (par2X qf qg k) I := by
  rw [seq_par, seq_mKs]
  have e0 : ∀ F : Sl × DEnv → Res (Ctl × DEnv), bnd (mK (.d f) ρ) F = bnd (f ρ) fun p => F (Sl.dat p.1, p.2) := fun F => by
    show bnd (bnd (f ρ) _) F = _
    cases f ρ <;> rfl
  rw [e0]
  refine Sim.bndX h fun a s => ?_
  dsimp only
  rw [seq_mKs]
  have e1 : ∀ F : Sl × DEnv → Res (Ctl × DEnv), bnd (mK (.d g) (R s)) F = bnd (g (R s)) fun p => F (Sl.dat p.1, p.2) := fun F => by
    show bnd (bnd (g (R s)) _) F = _
    cases g (R s) <;> rfl
  rw [e1]
  refine Sim.bndX (h2 s) fun b s => ?_
  dsimp only
  show Sim (if _ then _ else _) _ I
  rw [if_pos ⟨rfl, bltAll_ok (hi s)⟩]
  exact hk a b s
@[simp] def forX1 {T : Type} (fo : S → List D → Res γ) (s0 : T → S) (q : Res (List D × T)) (k : γ → Res β) : Res β := bnd q fun p => bnd (fo (s0 p.2) p.1) k
/-- a walk over what is told by an expression that changes a list of the def's own -/
theorem forX {T : Type} {Ri : T → DEnv} {fi : EvA} {g : EvG} {b : EvS} {qi : Res (List D × T)} {k : List D → T → Res β} (hi : EvX Ri (fi ρ) qi) (h : ∀ ds t, Sim (mSeq (mFor (fun ρ => .ok (ds, ρ)) g b) rest (Ri t)) (bnd (.ok ds) fun ds => k ds t) I) : Sim (mSeq (mFor fi g b) rest ρ) (bnd qi fun p => k p.1 p.2) I := by
  rw [seq_for]
  refine Sim.bndX hi fun ds t => ?_
  have q := h ds t
  rw [seq_for] at q
  exact q
theorem sFor1X {T : Type} {Ri : T → DEnv} {fi : EvA} {b : EvS} {qi : Res (List D × T)} {j N : Nat} {kb : S → D → Res S} {s0 : T → S} {ks : S → Res β} (hi : EvX Ri (fi ρ) qi) (h0 : ∀ t, Ri t = R (s0 t)) (hb : ∀ s d, Sim (b ((R s).set j (some (Sl.dat d)))) (kb s d) fun s' c ρ' => (c = .nx ∨ c = .ct) ∧ ρ' = R s')
    (hk : ∀ s, Sim (rest (R s)) (ks s) I) (hN : ∀ s, (R s).length = N := by intro _; rfl) (hj : Nat.blt j N = true := by rfl) : Sim (mSeq (mFor fi (gN j) b) rest ρ) (forX1 (foldQ kb) s0 qi ks) I :=
  forX hi fun ds t => sFor1 (s0 := s0 t) (show Ev (fun ρ => .ok (ds, ρ)) (Ri t) (.ok ds) from rfl) (h0 t) hb hk hN hj
theorem sForX {T : Type} {Ri : T → DEnv} {fi : EvA} {g : EvG} {b : EvS} {qi : Res (List D × T)} {N : Nat} {tg : Tg} {is : List Nat} {kb : S → List D → Res S} {s0 : T → S} {ks : S → Res β} (hi : EvX Ri (fi ρ) qi) (h0 : ∀ t, Ri t = R (s0 t)) (hg : TgOk N g tg is) (hb : ∀ s l, Sim (b (setL is l (R s))) (kb s l) fun s' c ρ' => (c = .nx ∨ c = .ct) ∧ ρ' = R s')
    (hk : ∀ s, Sim (rest (R s)) (ks s) I) (hN : ∀ s, (R s).length = N := by intro _; rfl) : Sim (mSeq (mFor fi g b) rest ρ) (forX1 (foldQ fun s d => bnd (pur (unp tg d)) (kb s)) s0 qi ks) I :=
  forX hi fun ds t => sFor (s0 := s0 t) (show Ev (fun ρ => .ok (ds, ρ)) (Ri t) (.ok ds) from rfl) (h0 t) hg hb hk hN
theorem sForC1X {T : Type} {Ri : T → DEnv} {fi : EvA} {b : EvS} {qi : Res (List D × T)} {j N : Nat} {kb : S → D → Res (Cn S)} {s0 : T → S} {ks : S → Res β} {kr : D → Res β} (hi : EvX Ri (fi ρ) qi) (h0 : ∀ t, Ri t = R (s0 t)) (hb : ∀ s d, Sim (b ((R s).set j (some (Sl.dat d)))) (kb s d) (Cnv R))
    (hk : ∀ s, Sim (rest (R s)) (ks s) I) (hr : ∀ d ρ', Sim (.ok (.rt d, ρ')) (kr d) I) (hN : ∀ s, (R s).length = N := by intro _; rfl) (hj : Nat.blt j N = true := by rfl) : Sim (mSeq (mFor fi (gN j) b) rest ρ) (forX1 (forQ kb) s0 qi (qCn ks kr)) I :=
  forX hi fun ds t => sForC1 (s0 := s0 t) (show Ev (fun ρ => .ok (ds, ρ)) (Ri t) (.ok ds) from rfl) (h0 t) hb hk hr hN hj
end
end L2.DL

namespace L2.DL
open PySem PySem.Spec PyProof.Rows
section
variable {S : Type} {R : S → DEnv} {ρ : DEnv} {s : S}
theorem cnvNx (h : ρ = R s) : Cnv R (.nx s) .nx ρ := ⟨.inl rfl, h⟩
theorem cnvCt (h : ρ = R s) : Cnv R (.nx s) .ct ρ := ⟨.inr rfl, h⟩
theorem cnvBk (h : ρ = R s) : Cnv R (.bk s) .bk ρ := ⟨rfl, h⟩
end
theorem takes0N {X : Cx} {J : Jx} : L2N.Takes X J.bot.W := fun _ _ x => by
  obtain ⟨_, _, _, _, _, _, _, _, _, _, _, _, _, _, _, _, z⟩ := x
  exact z.elim
/-- a statement that is never reached -/
def mNever : EvS := fun _ => stuck
theorem ds_never {X : Cx} {J : Jx} {st : Stmt} : PS X st (tS X.K J mNever) := ⟨fun pins s σ H E I h => by
  obtain ⟨G, ρ, R, h⟩ := h
  exact h.elim⟩
/-- a def of the text, as the top has left it -/
structure Def (K : PySem.W.Frag) (x : Str) (st : Stmt) : Prop where
  ex : ∃ (f : Addr) (fd : FuncData), PySem.W.nsIn K mainGlobals x = some (some (.ref f)) ∧ Fun K x x st f fd
theorem Def.mk' {K : PySem.W.Frag} {x : Str} {st : Stmt} {f : Addr} {oc : Value} {od an : Option Addr} {osl : Array (Option Value)} {kV doc pm cdv ct : Value} (a : PySem.W.nsIn K mainGlobals x = some (some (.ref f)))
    (l : K.lookup f = some ⟨oc, od, .func (PySem.W.fnOf x x (defArgs st) (defBody st) (defScope st) .none kV doc pm an cdv ct), osl⟩) (c : PySem.W.codeIn K cdv x = true) (k : PySem.W.keepIn K (.ref f) = true) : Def K x st :=
  ⟨⟨f, _, a, fun_mk l c k⟩⟩
/-- law's promise: a list of at most 63 whole numbers is handed in, True comes out -/
def spLaw (K : PySem.W.Frag) : Sp := fun vs H Q _ => ∃ (a : Addr) (ns : List Int), vs = [.ref a] ∧ SqL K H a (ns.map V.int) ∧ ns.length ≤ 63 ∧ ∀ H', Q (.bl true) H'
theorem rpA_of_ints {K : PySem.W.Frag} {M : Addr → Prop} {H : Hp} : ∀ ns : List Int, RpA K M H (ns.map V.int) (ns.map .int)
  | [] => .nil
  | n :: ns => .cons (.int n) (rpA_of_ints ns)
theorem spLaw_of {K : PySem.W.Frag} (m : List D → Res D) (h : ∀ ns : List Int, ns.length ≤ 63 → m [.list (ns.map .int)] = .ok (.bool true)) : ∀ vs H Q E, spLaw K vs H Q E → spP K 1 m vs H Q E := by
  rintro vs H Q E ⟨a, ns, rfl, hs, hl, q⟩
  refine ⟨rfl, fun _ => False, [.list (ns.map .int)], .cons (.lst (fun z => z) hs (rpA_of_ints ns)) .nil, fun _ z => z.elim, ?_⟩
  rw [h ns hl]
  exact fun v H' _ _ r => by rw [r.bool_inv]; exact q H'
end L2.DL

namespace L2.DL
open PySem PySem.Spec PyProof.Rows PySem.Calls

/-! ## a class's __init__ that says super().__init__(..) and keeps what it gets -/
abbrev VE : String := "ValueError.__init__"
/-- the wrapper is called: the object's args are laid anew -/
theorem wrapper_called {prog : Program} {w : World} {A : Around} {E : Value → Shared → Prop} {h : Heap} {g : Array GenState} {d : Drawn} {t : Nat} {os : OsState} {nm q : Str} {C N : Addr} {bs bm : List Value} {hdct : Bool} {sn : List Str} {sub : List Value} {ab : Bool}
    {col : Option Bool} {dd : Option Addr} {k0 k1 k2 k3 k5 : Option Value} {u e t0 : Addr} {us : List Value} {Q : Value → Shared → Prop} (hC : h.get? C = some (excClassObj nm q C N bs bm hdct sn sub ab col dd k0 k1 k2 k3 k5 "ValueError.__new__")) (he : h.get? e = some (HandSPX.excO C t0))
    (hu : h.get? u = some (PySem.W.kxs_mw VE e)) (hl : us.length ≤ sizeLine) (hq : ∀ h' t1, (∀ b o, b ≠ e → h.get? b = some o → h'.get? b = some o) → h'.get? e = some (HandSPX.excO C t1) → Q .none ⟨h', g, d, t, os⟩) : wpAny (model prog w) A (call (.ref u) us) Q E ⟨h, g, d, t, os⟩ := by
  refine wpAny_call (codeAny_of_tree ?_); show wpAny _ A.in1 (callAny (.ref u) ⟨us, []⟩) _ _ _
  simp only [callAny]; refine wpAny_bind (wpAny_load hu ?_)
  simp only [PySem.W.kxs_mw, show ((Value.type "method-wrapper" == Value.type "method") || (Value.type "method-wrapper" == Value.type "builtin_function_or_method") || (Value.type "method-wrapper" == Value.type "method-wrapper")) = true by decide, if_true]
  refine PySem.W.KFB.if_so (by decide) (wpAny_bind (PySem.W.check_bound_init PySem.F.excBase_ValueError.toExcCallFacts hC he rfl (wpAny_bind (wpAny_pure (wpAny_pure ⟨plainId_quiet PySem.F.excBase_ValueError.init.plain _, codeAny_builtin PySem.F.excBase_ValueError.initEntry ?_⟩)))))
  exact PySem.W.exc_init_tree (cls := .ref C) (t0 := t0) (dv := none) (c2 := .none) (c3 := .none) (b4 := .bool false) he hl fun h' k z _ => hq h' _ k z
theorem wrapper_callWith {prog : Program} {w : World} {A : Around} {E : Value → Shared → Prop} {s : Shared} {pos : Pos} {u x : Addr} {env : Env} {e : Expr} {es : List Expr} {Q : Value → Shared → Prop} (he : starEach (e :: es) env = (false, eval e env) :: starEach es env)
    (hpl : (backTo pos (starEach es env)).any (·.1) = false) (h : wpAny (model prog w) A (spliced (backTo pos (starEach (e :: es) env))) (fun vs s1 => s1.heap.get? u = some (PySem.W.kxs_mw VE x) ∧ wpAny (model prog w) A (call (.ref u) vs) Q E s1) E s) :
    wpAny (model prog w) A (callWith pos (.ref u) [] (backTo pos (starEach (e :: es) env)) []) Q E s := by
  rw [he] at h ⊢
  exact PySem.W.kxs_callWith (i := VE) (x := x) (by show (false || (backTo pos (starEach es env)).any (·.1)) = false; rw [hpl]; rfl) (evalArgs_plain h)

/-- the context of such an __init__'s body -/
def cxI (CX : CXT) (P : Program) (w : World) (K : PySem.W.Frag) (mg : Str → Option Value) (base : Heap) (N : List Str) (qual : Str) (scope : Scope) (f : Addr) (cd : Value) (cc : Addr) (A : Around) (outer : List Env) (s : Shared) (H : Hp) (E : XK) : Cx :=
  let env := PySem.W.ksEnv qual scope s.heap.objs.size f cd cc
  { prog := P, w := w, K := K, mg := mg, base := base, A := A.deeper env, N := N, s_0 := s, H_0 := H, env := env, outer := outer, stack := env :: outer, ex := [], calm := true, fn := fun _ => false, pn := [],
    xe := fun e s' => wpAny (model P w) (A.deeper env) (leaving env e) (fun _ s'' => CX outer H s E e s'') (fun e' s'' => CX outer H s E e' s'') s' }
/-- the names of such an __init__ -/
structure IScope (ps : List Str) (sc : Scope) : Prop where
  kind : sc.kind = .function
  co : sc.isCoroutine = false
  gen : sc.isGenerator = false
  nd : ps.Nodup
  cell : ∀ x ∈ sc.names, x.2 ≠ .cell
  par : ∀ x ∈ ps, sc.names.lookup x = some .local
  free : ∀ x, sc.names.lookup x = some .free → x = "__class__"
  cls : sc.names.lookup ("__class__" : Str) = some .free
  sup : sc.names.lookup ("super" : Str) = some .globalImplicit
theorem lookup_one {x : Str} {c : Addr} {y : Str} (h : ([(x, c)] : List (Str × Addr)).lookup y = some c) : y = x := by
  by_cases e : y = x
  · exact e
  · have : (y == x) = false := by simpa using e
    simp [List.lookup, this] at h
theorem lookup_val {x : Str} {c c' : Addr} {y : Str} (h : ([(x, c)] : List (Str × Addr)).lookup y = some c') : y = x ∧ c' = c := by
  by_cases e : y = x
  · subst e
    simp [List.lookup] at h
    exact ⟨rfl, h.symm⟩
  · have : (y == x) = false := by simpa using e
    simp [List.lookup, this] at h
theorem zip_lookup : ∀ {ps : List Str} {us : List Value} {i : Nat} {x : Str} {u : Value}, ps.Nodup → ps[i]? = some x → us[i]? = some u → (ps.zip us).reverse.lookup x = some u := by
  intro ps us i x u nd hp hu
  have key : ∀ (l : List (Str × Value)), (l.map (·.1)).Nodup → (x, u) ∈ l → l.lookup x = some u := by
    intro l
    induction l with
    | nil => intro _ h; cases h
    | cons p l ih =>
      intro hn hm
      obtain ⟨y, v⟩ := p
      rw [List.map_cons, List.nodup_cons] at hn
      rcases List.mem_cons.mp hm with z | z
      · cases z
        simp [List.lookup]
      · have : x ≠ y := fun e => hn.1 (by rw [← e]; exact List.mem_map.mpr ⟨(x, u), z, rfl⟩)
        have e : (x == y) = false := by simpa using this
        simp [List.lookup, e]
        exact ih hn.2 z
  have hz : (ps.zip us)[i]? = some (x, u) := List.getElem?_zip_eq_some.mpr ⟨hp, hu⟩
  refine key _ ?_ (List.mem_reverse.mpr (List.mem_of_getElem? hz))
  rw [List.map_reverse, (List.reverse_perm _).nodup_iff]
  have sub : ((ps.zip us).map (·.1)).Sublist ps := by
    clear hz hp hu key nd
    induction ps generalizing us with
    | nil => simp
    | cons p ps ih =>
      cases us with
      | nil => simp
      | cons v us => simpa using ih (us := us)
  exact nd.sublist sub
section
variable {P : Program} {w : World} {K : PySem.W.Frag} {mg : Str → Option Value} {base : Heap} {ps : List Str} {qual : Str} {sc : Scope} {f cc D : Addr} {cd : Value} {A : Around} {outer : List Env} {s : Shared} {H : Hp} {E : XK} {CX : CXT}
theorem inv_init {cl : Value} {cld : Option Addr} {csl : Array (Option Value)} {us : List Value} {vs : List V} {h₁ : Heap} {tk : Nat} (S : IScope ps sc) (hd : A.handled = none) (e0 : Env0 P w K mg base A outer s H) (hl : vs.length = ps.length) (r : Vals vs us)
    (hcell : K.lookup cc = some ⟨cl, cld, .cell (some (.ref D)), csl⟩) (hns : h₁.Ns s.heap.objs.size fun x => (ps.zip us).reverse.lookup x) (kp : ∀ b o, s.heap.get? b = some o → h₁.get? b = some o) :
    Inv (cxI CX P w K mg base ps qual sc f cd cc A outer s H E) [] (start ps vs) H { s with heap := h₁, toks := tk } := by
  have noA : ∀ b : Addr, b ∉ (cxI CX P w K mg base ps qual sc f cd cc A outer s H E).ex := fun b z => absurd (show b ∈ ([] : List Addr) from z) (by simp)
  have cB := e0.mod.kin _ _ hcell
  refine ⟨⟨e0.mod, S.kind, rfl, rfl, Nat.le_refl _, fun x y c h1 h2 => (lookup_val h1).1.trans (lookup_val h2).1.symm, fun x hx => ?_, fun x c h => absurd h Bool.false_ne_true, fun _ => hd, Around.frames_deeper e0.frames, .inr ⟨rfl, rfl⟩,
      fun b z => absurd z (noA b), e0.bs, e0.bsz, fun b _ _ => noA b, fun b z => absurd z (noA b), e0.funs, e0.frf⟩,
    rfl, e0.bare, Un.kept kp, ⟨_, hns, fun i x v h1 h2 h3 => ?_⟩, fun x c h => ?_, e0.hok.fresh (Nat.le_refl _), fun x c h => ?_, fun p hp => absurd (show p ∈ ([] : List (Addr × Obj)) from hp) (by simp), e0.hok.kept kp, ?_⟩
  · have hx : sc.names.lookup x = some .cell ∨ sc.names.lookup x = some .free := hx
    rcases hx with hx | hx
    · exact absurd rfl (S.cell _ (PySem.mem_of_lookup hx))
    · rw [S.free x hx]
      exact ⟨cc, by show ([(("__class__" : Str), cc)] : List (Str × Addr)).lookup ("__class__" : Str) = _; simp [List.lookup]⟩
  · have h2' : (start ps vs)[i]? = some (some v) := h2
    unfold start at h2'
    have e : List.replicate (ps.length - vs.length) (none : Option V) = [] := by rw [hl, Nat.sub_self]; rfl
    rw [e, List.append_nil, List.getElem?_map] at h2'
    cases hv : vs[i]? with
    | none => rw [hv] at h2'; cases h2'
    | some v' =>
      rw [hv] at h2'
      cases h2'
      obtain ⟨u, hu, ru⟩ := r.get hv
      exact ⟨u, ru, .inl ⟨S.par x (List.mem_of_getElem? h1), zip_lookup S.nd h1 hu⟩⟩
  · obtain ⟨_, rfl⟩ := lookup_val h
    exact ⟨_, _, kp _ _ (e0.bs _ _ cB).1, rfl⟩
  · obtain ⟨_, rfl⟩ := lookup_val h
    exact (e0.bs _ _ cB).2
  · unfold start
    show _ = ps.length
    rw [List.length_append, List.length_map, List.length_replicate]
    omega
/-- what the written part says of the class C and of its __init__ at f -/
structure ExcK (P : Program) (K : PySem.W.Frag) (C : Addr) : Prop where
  oe : OexC K C
  sup : PySem.W.ks_superIn K C C "__init__" = some (some (.builtin VE))
  opq : PySem.W.nsIn K cStatics "thirdparty.any" = some none
  ve : PySem.W.subIn K (.ref C) (.type "ValueError") = some true
  self : PySem.W.mroIn K C (.ref C) = some true
  nosup : PySem.W.nsIn K mainGlobals "super" = some none
  top : (P.main.scope.names.lookup ("super" : Str)).isSome = false
/-- what such an __init__ promises -/
def spI (C : Addr) (n : Nat) (fin : Addr → List V → Hp → Hp → Prop) : Sp := fun vs H Q _ => vs.length = n ∧ ∃ a ws, vs = .ref a :: ws ∧ ws.length ≤ 1000 ∧ H a = some (exo a C none) ∧ ∀ H', fin a ws H H' → Q .non H'
theorem init_ok {k : Nat} {C fi cda : Addr} {name : Str} {params : Arguments} {rest : List Stmt} {e : Expr} {es : List Expr} {ar : Arg} {dV kV doc pm ct oc ccl cl : Value} {od an cdd cld : Option Addr} {osl ccs csl : Array (Option Value)} {cv : Array Value} {file : Str} {tf : Tok} {p0 p1 p2 p3 p4 : Pos}
    {fin : Addr → List V → Hp → Hp → Prop} {ta : TA} {t : TS}
    (lk : K.lookup fi = some ⟨oc, od, .func (PySem.W.ksFn name qual params (.Expr (.Call (.Attribute (.Call (.Name "super" p0) [] [] p1) "__init__" p2) (e :: es) [] p3) p4 :: rest) sc dV kV doc pm an (.ref cda) ct cc), osl⟩) (hcd : PySem.W.codeIn K (.ref cda) qual = true)
    (S : IScope ps sc) (X : ExcK P K C) (hcode : K.lookup cda = some ⟨ccl, cdd, .fields cv, ccs⟩) (hcv : cv[2]? = some (.str file tf)) (hfile : (P.main.file == file) = true) (hcell : K.lookup cc = some ⟨cl, cld, .cell (some (.ref C)), csl⟩)
    (har : (params.posonlyargs ++ params.args).head? = some ar) (hps : ps[0]? = some ar.arg)
    (hargs : ∀ (A : Around) (outer : List Env) (s : Shared) (H : Hp) (E : XK), PA (cxI CX P w K mg base ps qual sc fi (.ref cda) cc A outer s H E) (e :: es) ta) (hta : ∀ a ws H Q, ws.length + 1 = ps.length → Q ws H → ta (start ps (.ref a :: ws)) H Q)
    (hrest : ∀ (A : Around) (outer : List Env) (s : Shared) (H : Hp) (E : XK), PSs (cxI CX P w K mg base ps qual sc fi (.ref cda) cc A outer s H E) rest t)
    (ht : ∀ a ws H (D : Ends), ws.length + 1 = ps.length → H a = some (exo a C none) → (∀ σ' H', fin a ws H H' → D.nx σ' H') → t D (start ps (.ref a :: ws)) H)
    (hev : ∀ L : Addr, ∃ pl : Sem Bool, eval (.Call (.Attribute (.Call (.Name "super" p0) [] [] p1) "__init__" p2) (e :: es) [] p3) (PySem.W.ksEnv qual sc L fi (.ref cda) cc) = (do
      let ov ← attributeBase (.Call (.Name "super" p0) [] [] p1) "__init__" (PySem.W.ksEnv qual sc L fi (.ref cda) cc) (eval (.Call (.Name "super" p0) [] [] p1) (PySem.W.ksEnv qual sc L fi (.ref cda) cc))
      standAt p2.atName
      let (f, first) ← holding [ov] (getMethod ov "__init__" pl)
      callWith p3 f first (backTo p3 (starEach (e :: es) (PySem.W.ksEnv qual sc L fi (.ref cda) cc))) []))
    (hin : ∀ L : Addr, interactive (PySem.W.ksEnv qual sc L fi (.ref cda) cc) = false) (hsw : ∀ L : Addr, swapsWith (.Call (.Attribute (.Call (.Name "super" p0) [] [] p1) "__init__" p2) (e :: es) [] p3) none p4.line (PySem.W.ksEnv qual sc L fi (.ref cda) cc) = pure false)
    (he : ∀ env : Env, starEach (e :: es) env = (false, eval e env) :: starEach es env := by intro _; rfl) (hpl : ∀ env : Env, (backTo p3 (starEach es env)).any (·.1) = false := by intro _; rfl) :
    FnOk P w K mg base CX (k + 1) fi (PySem.W.ksFn name qual params (.Expr (.Call (.Attribute (.Call (.Name "super" p0) [] [] p1) "__init__" p2) (e :: es) [] p3) p4 :: rest) sc dV kV doc pm an (.ref cda) ct cc) ps (spI C ps.length fin) := by
  refine ⟨fun vs H Q E h => h.1, fun A outer s H args us vs Q E hr e0 hb r hsp => ?_⟩
  obtain ⟨hl, a, ws, rfl, hws, ha, hq⟩ := hsp
  have KX : K.In s.heap := e0.mod.kin.keeps fun b o z => (e0.bs b o z).1
  have lim : s.heap.NoLimit := e0.mod.nolimit.keeps fun b o z => (e0.bs b o z).1
  have hl' : ws.length + 1 = ps.length := by rw [← hl]; rfl
  refine PySem.ks_codeAny_call_defAt hr.depth (KX _ _ lk) rfl lim (PySem.W.codeRec_of KX hcd) rfl hb S.cell (fun y hy => S.par _ (List.of_mem_zip hy).1) (fun h₁ hns hk => ?_) S.co S.gen S.kind
  have I : Inv (cxI CX P w K mg base ps qual sc fi (.ref cda) cc A outer s H E) [] (start ps (.ref a :: ws)) H { s with heap := h₁, toks := s.toks + (ps.zip us).length } := inv_init S hr.hd e0 hl r hcell hns hk
  have fini : ∀ {fl : Flow} {s' : Shared}, SP (cxI CX P w K mg base ps qual sc fi (.ref cda) cc A outer s H E) [] ⟨fun _ H' => Q .non H', Q, fun _ _ => False, fun _ _ => False⟩ fl s' → CE outer P w H s Q (match fl with | .ret v => v | _ => .none) s' := by
    intro fl s' hs
    cases fl with
    | ret u =>
      obtain ⟨v, σ', H', J, rv, q⟩ := hs
      exact ⟨v, H', J.os, J.bare, J.base, J.hok, rv, q⟩
    | next =>
      obtain ⟨σ', H', J, q⟩ := hs
      exact ⟨.non, H', J.os, J.bare, J.base, J.hok, rfl, q⟩
    | brk => obtain ⟨_, _, _, q⟩ := hs; exact q.elim
    | cont => obtain ⟨_, _, _, q⟩ := hs; exact q.elim
  have rs : (ps.zip us).reverse.lookup ar.arg = some (Value.ref a) := by
    cases r with
    | @cons _ u0 _ ur r0 rr =>
      obtain rfl : u0 = Value.ref a := r0
      exact zip_lookup S.nd hps rfl
  have hpm : ar.arg ∈ ps := List.mem_of_getElem? hps
  obtain ⟨nm, q0, N, bs, bm, sn, sub, ab, col, dd, k0, k1, k2, k3, k5, hC, hbm⟩ := X.oe.cls
  have hcl : PySem.W.clsIn K C = some { name := nm, bases := bs, mro := .ref C :: bm, ns := N, qualname := q0, hasDict := true, slotNames := sn, subclasses := sub, abstract := ab, collection := col, hasDel := false } := by
    unfold PySem.W.clsIn
    rw [hC] <;> rfl
  obtain ⟨t1, hoe⟩ := exo_at I.hok ha
  obtain ⟨mb, hb1, hb2⟩ := I.mod.blt
  have KI : K.In h₁ := I.kIn
  obtain ⟨pl, hev⟩ := hev s.heap.objs.size
  refine ks_wpAt_execs_cons (ks_wpAt_Expr_any (ks_wpAt_MethodCall (pl := pl) ?_ hev) (hin _) (hsw _))
  refine ks_wpAt_super_base S.sup S.cls (by decide) rfl (KI _ _ lk) rfl har rfl (KI _ _ hcode) rfl hcv hfile X.top ?_
  refine PySem.W.ks_loadName_global S.kind S.sup (PySem.Calls.loadGlobal_builtin (I.mod.glob.keeps I.bk) (PySem.W.mg_none_of e0.mod.kin e0.mod.glob X.nosup) (hb1.keeps I.bk) ((hb2 _ (by decide)).trans (show bootBuiltins "super" = some (.type "super") by decide +kernel)) ⟨rfl, ?_⟩)
  refine wpAny_loadName_free S.kind S.cls (c := cc) (by show ([(("__class__" : Str), cc)] : List (Str × Addr)).lookup ("__class__" : Str) = _; simp [List.lookup]) ⟨_, KI _ _ hcell, rfl⟩ ?_
  refine wpAny_loadName_local S.kind (S.par _ hpm) hns rs (ks_wpAny_isType_cls (KI _ _ hC) rfl ⟨rfl, ?_⟩)
  refine ks_wpAny_call_super (KI _ _ hC) rfl hoe rfl (fun c z => by cases z) (PySem.W.looks_mroIn KI X.self) fun h2 z2 up2 => ?_
  have KI2 : K.In h2 := KI.keeps up2
  have J2 : PySem.W.InstAt h2 a { cls := .ref C, dict := none, data := .fields #[.ref t1, .none, .none, .none, .bool false, .none] } C none := ⟨up2 _ _ hoe, rfl, rfl, trivial⟩
  have hsup := X.sup
  unfold PySem.W.ks_superIn at hsup
  rw [hcl] at hsup
  refine PySem.W.kxs_getMethod PySem.W.kxs_ValueError z2 (PySem.W.looks_opaque KI2 X.opq) (l₀ := .ref C :: bm) (fun A Q E s k q => wpAny_bind ((PySem.W.looks_clsIn KI2 hcl) A _ E s k (wpAny_pure q))) rfl KI2 hsup (J2.type.andThen (PySem.W.looks_subIn KI2 X.ve)) (PySem.W.ks_ne KI2 J2 hcl) (by decide) ?_
  -- the wrapper stands, pinned
  have I2 := I.kept (t' := s.toks + (ps.zip us).length) up2
  have up3 : ∀ b o, h2.get? b = some o → (h2.push (PySem.W.kxs_mw VE a)).get? b = some o := fun b o z => Heap.get?_push_of_some _ z
  have I3 := I2.kept (t' := s.toks + (ps.zip us).length + 1) up3
  have un : H h2.objs.size = none := I2.hok.fresh (Nat.le_refl _)
  have I4 : Inv (cxI CX P w K mg base ps qual sc fi (.ref cda) cc A outer s H E) [(h2.objs.size, PySem.W.kxs_mw VE a)] (start ps (.ref a :: ws)) H { s with heap := h2.push (PySem.W.kxs_mw VE a), toks := s.toks + (ps.zip us).length + 1 } := by
    refine ⟨I3.ok, I3.os, I3.bare, I3.base, I3.loc, I3.cell, I3.free, I3.freeC, fun p hp => ?_, I3.hok, I3.len⟩
    have hp : p ∈ [(h2.objs.size, PySem.W.kxs_mw VE a)] := hp
    rw [List.mem_singleton] at hp
    subst hp
    exact ⟨Heap.get?_push_size _ rfl, un, fun z => absurd I2.lt (by rw [← show h2.objs.size = _ from z]; exact Nat.lt_irrefl _), I2.nofs (Nat.le_refl _), fun v z => by cases z⟩
  refine wrapper_callWith (x := a) (he _) (hpl _) (thn ((hargs A outer s H E).run p3 _ _ _ H (fun vs H1 => vs = ws ∧ H1 = H) I4 (hta a ws H _ hl' ⟨rfl, rfl⟩)) fun us' s3 hh => ?_)
  obtain ⟨vs', H3, I5, r5, ev, eH⟩ := hh
  subst ev eH
  obtain ⟨hp5, hn5, _⟩ := I5.pin (h2.objs.size, PySem.W.kxs_mw VE a) (List.mem_append_right _ List.mem_cons_self)
  obtain ⟨t5, ho5⟩ := exo_at I5.hok ha
  obtain ⟨h5, g5, d5, k5', os5⟩ := s3
  refine ⟨hp5, wrapper_called (I5.kIn _ _ hC) ho5 hp5 (by rw [← r5.length, sizeLine_eq]; omega) fun h6 t6 k6 z6 => ?_⟩
  have J := I5.write (t' := k5') (x := a) (e := a) (o := exo a C none) (by rw [ha]; exact True.intro) (.inl rfl) k6 ⟨_, z6⟩ (exo_ok z6)
  have eu : upd H3 a (exo a C none) = H3 := by
    funext b
    by_cases hb : b = a
    · rw [hb, upd_same, ha]
    · rw [upd_ne hb]
  rw [eu] at J
  have J' : Inv (cxI CX P w K mg base ps qual sc fi (.ref cda) cc A outer s H3 E) [] (start ps (.ref a :: vs')) H3 ⟨h6, g5, d5, k5', os5⟩ := ⟨J.ok, J.os, J.bare, J.base, J.loc, J.cell, J.free, J.freeC, fun p hp => absurd (show p ∈ ([] : List (Addr × Obj)) from hp) (by simp), J.hok, J.len⟩
  refine wpAt_of_wpAny (wpAny_mono ((hrest A outer s H3 E).run [] _ _ H3 ⟨fun _ H' => Q .non H', Q, fun _ _ => False, fun _ _ => False⟩ J' (ht a vs' H3 _ hl' ha fun σ' H' z => hq H' z)) (fun fl s' hs => fini hs) fun _ _ z => z)
end
/-- the fields are kept, one after the other -/
def finN (C : Addr) (fs : List Str) (a : Addr) (ws : List V) (H H' : Hp) : Prop := ws.length = fs.length ∧ ∃ dx, H dx = none ∧ dx ≠ a ∧ H' a = some (exo a C (some dx)) ∧ H' dx = some (exd dx (fs.zip ws).reverse) ∧ ∀ b, b ≠ a → b ≠ dx → H' b = H b
/-- self.f = .., for each -/
def tSt (K : PySem.W.Frag) : List (Str × Nat) → TS
  | [] => tNext
  | p :: r => tSeq (tOst K p.1 (tVar 0) (tVar p.2)) (tSt K r)
theorem tSt_ok {K : PySem.W.Frag} {C a : Addr} {ws : List V} {H0 : Hp} {σ : St} {D : Ends} (T : OexC K C) (h0 : σ[0]? = some (some (V.ref a))) :
    ∀ (r : List (Str × Nat)) (done : List (Str × V)) (H : Hp), (∀ p ∈ r, PySem.W.findIn K (.ref C) p.1 = some none) → (∀ p ∈ r, ∃ v, σ[p.2]? = some (some v)) → done.length + r.length ≤ 900 →
      ((done = [] ∧ H = H0 ∧ H0 a = some (exo a C none)) ∨ ∃ dx, H0 dx = none ∧ dx ≠ a ∧ H a = some (exo a C (some dx)) ∧ H dx = some (exd dx done) ∧ ∀ b, b ≠ a → b ≠ dx → H b = H0 b) →
      (∀ vs H', vs.length = r.length → (∀ (i : Nat) (p : Str × Nat), r[i]? = some p → ∃ v, vs[i]? = some v ∧ σ[p.2]? = some (some v)) → (r = [] → H' = H) → (r ≠ [] → ∃ dx, H0 dx = none ∧ dx ≠ a ∧ H' a = some (exo a C (some dx)) ∧ H' dx = some (exd dx (((r.map (·.1)).zip vs).reverse ++ done)) ∧ ∀ b, b ≠ a → b ≠ dx → H' b = H0 b) → D.nx σ H') →
      tSt K r D σ H := by
  intro r
  induction r with
  | nil =>
    intro done H _ _ _ _ q
    exact q [] H rfl (fun i p h => by simp at h) (fun _ => rfl) fun h => absurd rfl h
  | cons p r ih =>
    intro done H hf hv hl hs q
    obtain ⟨v, ev⟩ := hv p List.mem_cons_self
    obtain ⟨f, j⟩ := p
    have next : ∀ (H2 : Hp) (dx : Addr), H0 dx = none → dx ≠ a → H2 a = some (exo a C (some dx)) → H2 dx = some (exd dx ((f, v) :: done)) → (∀ b, b ≠ a → b ≠ dx → H2 b = H0 b) → tSt K r D σ H2 := fun H2 dx n1 n2 g1 g2 g3 => by
      refine ih ((f, v) :: done) H2 (fun p hp => hf p (List.mem_cons_of_mem _ hp)) (fun p hp => hv p (List.mem_cons_of_mem _ hp)) (by simp at hl ⊢; omega) (.inr ⟨dx, n1, n2, g1, g2, g3⟩) fun vs H' e1 e2 e3 e4 => ?_
      refine q (v :: vs) H' (by simp [e1]) (fun i p h => ?_) (fun h => absurd h (by simp)) fun _ => ?_
      · cases i with
        | zero => simp at h; subst h; exact ⟨v, rfl, ev⟩
        | succ i => obtain ⟨x, x1, x2⟩ := e2 i p (by simpa using h); exact ⟨x, by simpa using x1, x2⟩
      · by_cases hr : r = []
        · subst hr
          have := e3 rfl
          subst this
          have hvs : vs = [] := List.eq_nil_of_length_eq_zero (by simpa using e1)
          subst hvs
          exact ⟨dx, n1, n2, g1, by simpa using g2, g3⟩
        · obtain ⟨dx', m1, m2, m3, m4, m5⟩ := e4 hr
          exact ⟨dx', m1, m2, m3, by simpa [List.append_assoc] using m4, m5⟩
    refine ⟨v, ev, .ref a, h0, a, C, rfl, T, hf (f, j) List.mem_cons_self, ?_⟩
    rcases hs with ⟨rfl, rfl, ha⟩ | ⟨dx, n1, n2, g1, g2, g3⟩
    · refine .inl ⟨ha, fun dx n1 n2 => next _ dx n1 n2 upd_same (by rw [upd_ne n2, upd_same]) fun b b1 b2 => by rw [upd_ne b1, upd_ne b2]⟩
    · refine .inr ⟨dx, done, g1, g2, by simp at hl; omega, next _ dx n1 n2 (by rw [upd_ne fun z => n2 z.symm]; exact g1) upd_same fun b b1 b2 => by rw [upd_ne b2]; exact g3 b b1 b2⟩

/-! ## raise -/
section
variable {X : Cx} {J : Jx} {x : Str} {p pos : Pos} {e : Expr} {es : List Expr} {k : Nat}
/-- an exception class of the program, with the fields fs -/
structure HasX (P : Program) (w : World) (K : PySem.W.Frag) (mg : Str → Option Value) (base : Heap) (k : Nat) (x : Str) (fs : List Str) : Prop where
  ex : ∃ (C fi : Addr) (fd : FuncData) (ps : List Str), mg x = some (.ref C) ∧ clsAt K x C ∧ OexC K C ∧ PySem.W.findIn K (.ref C) "__init__" = some (some (.ref fi)) ∧ PySem.W.typeIn K (.ref fi) = some (.type "function") ∧
    FnOk P w K mg base (L2N.CX P w) k fi fd ps (spI C ps.length (finN C fs)) ∧ Binds K fd ps [] ∧ ps.length = fs.length + 1
def tMkS (C : Addr) (fs : List Str) (ta : TA) : St → Hp → XK → Prop := fun σ H Q => ta σ H fun vs H1 => vs.length ≤ 1000 ∧ vs.length = fs.length ∧ ∀ (d : Addr) (H' : Hp), H1 d = none → H' d = some (.xd (fs.zip vs).reverse) → (∀ b, b ≠ d → H1 b ≠ none → H' b = H1 b) → Q (.ref C) (some d) H'
theorem pmk_new {C fi : Addr} {fd : FuncData} {ps fs : List Str} {ta : TA} (T : OexC X.K C) (iC : PySem.W.findIn X.K (.ref C) "__init__" = some (some (.ref fi))) (tI : PySem.W.typeIn X.K (.ref fi) = some (.type "function"))
    (F : FnOk X.prog X.w X.K X.mg X.base (L2N.CX X.prog X.w) k fi fd ps (spI C ps.length (finN C fs))) (hr : Room (k + 1) X.A) (hb : Binds X.K fd ps []) (hps : ps.length = fs.length + 1) (hg : Gl X x) (hm : X.mg x = some (.ref C)) (ha : PA X (e :: es) ta)
    (hdb : (x == ("__debug__" : Str)) = false := by decide) (he : starEach (e :: es) X.env = (false, eval e X.env) :: starEach es X.env := by rfl) (hpl : (backTo pos (starEach es X.env)).any (·.1) = false := by rfl) :
    L2N.PMk X (.Call (.Name x p) (e :: es) [] pos) (tMkS C fs ta) := by
  intro pins s σ H Q I h
  obtain ⟨nm, q0, N, bs, bm, sn, sub, ab, col, dd, k0, k1, k2, k3, k5, hC, hbm⟩ := T.cls
  refine wpAny_Call_Name_kw (ld_glob I hg hm (PySem.W.callWith_K (h₀ := X.base) I.ok.mod.kin T.kC (thn (ha.run pos pins s σ H _ I h) fun us s1 hh => ?_) he hpl) hdb)
  obtain ⟨vs, H1, I1, r1, hz, hfl, q1⟩ := hh
  refine ⟨I1.kIn, ?_⟩
  show wpAny _ _ (call (.ref C) us) _ _ _
  obtain ⟨hp, g, dr, tk, os⟩ := s1
  obtain ⟨o, eo⟩ : ∃ o : Nat, o = hp.objs.size := ⟨_, rfl⟩
  have up1 : ∀ b u, hp.get? b = some u → ((hp.push (PySem.W.kdv_tup us)).push (HandSPX.excO C hp.objs.size)).get? b = some u := fun b u z => Heap.get?_push_of_some _ (Heap.get?_push_of_some _ z)
  have at1 : ((hp.push (PySem.W.kdv_tup us)).push (HandSPX.excO C hp.objs.size)).get? (hp.objs.size + 1) = some (HandSPX.excO C hp.objs.size) := by heap_get
  have ge1 : hp.objs.size ≤ hp.objs.size + 1 := Nat.le_succ _
  have nn : H1 (hp.objs.size + 1) = none := I1.hok.fresh ge1
  have I2 := I1.laid (t' := tk) (o := exo (hp.objs.size + 1) C none) up1 ge1 (exo_ok at1)
  have r2 : Vals (V.ref (hp.objs.size + 1) :: vs) (Value.ref (hp.objs.size + 1) :: us) := .cons rfl r1
  have hul : us.length = vs.length := r1.length.symm
  have hus : us.length ≤ sizeLine := by rw [hul, sizeLine_eq]; omega
  have run := F.run (X.A.under (.builtin "type.__call__" ⟨.ref C :: us, []⟩)) X.stack _ _ ⟨Value.ref (hp.objs.size + 1) :: us, []⟩ _ _ (fun v H2 => v = .non ∧ finN C fs (hp.objs.size + 1) vs (upd H1 (hp.objs.size + 1) (exo (hp.objs.size + 1) C none)) H2) (fun _ _ _ => False)
    (hr.make C us []) (I2.env0.make C us []) (by
      have z := hb _ (Value.ref (hp.objs.size + 1) :: us) I2.kIn (by rw [List.append_nil, List.length_cons, hul, hfl, hps])
      rw [List.append_nil] at z
      exact z) r2 ⟨by rw [List.length_cons, hfl, hps], _, _, rfl, hz, upd_same, fun H' z => ⟨rfl, z⟩⟩
  refine wpAny_call (HandSPX.call_own PySem.F.excBase_ValueError (fun Y => HandSPX.refsVE_contains Y bm hbm) (I1.kIn _ _ hC) (PySem.W.looks_findIn I1.kIn iC) (fun self => PySem.W.bind_fn I1.kIn self tI) hus (codeAny_mono run fun r s' hq => ?_))
  cases r with
  | error er =>
    obtain ⟨_, _, _, _, _, _, _, _, _, _, _, _, z⟩ := hq
    exact z.elim
  | ok fl =>
    cases fl with
    | ret u =>
      obtain ⟨v, H2, os2, bare2, un2, hok2, rv, ev, _, d, n1, n2, g1, g2, g3⟩ := hq
      subst ev
      obtain ⟨h2, g2', d2, t2, os'⟩ := s'
      have nd : H1 d = none := by rw [upd_ne n2] at n1; exact n1
      obtain ⟨t0, Gh, J, kG, ge, hoe, na⟩ := mk_end0 (d2 := d2) (t2 := t2) I1 ge1 up1 un2 hok2 os2 bare2 g1 g2 nd
      refine ⟨rv, hp.objs.size + 1, _, _, ⟨Gh, g2', d2, t2, os'⟩, _, .ref C, some d, rfl, J, kG, ge, hoe, ⟨rfl, rfl, fun vs z => by cases z; rfl⟩, rfl, rfl, na, rfl, bare2, raises_own T.exC T.tyC, ?_⟩
      refine q1 d _ nd upd_same fun b hb hn => ?_
      have ba : b ≠ hp.objs.size + 1 := fun z => hn (by rw [z]; exact nn)
      rw [upd_ne hb, del_ne ba, g3 b ba hb, upd_ne ba]
    | next => exact False.elim hq
    | brk => exact False.elim hq
    | cont => exact False.elim hq
theorem pmk_pre {e : Expr} {t : St → Hp → XK → Prop} (h : L2N.PMk X e t) : L2N.PMk X e (fun σ H Q => t σ H fun cls d H' => KF X.K H' → Q cls d H') := fun pins s σ H Q I ht =>
  wpAny_mono (h pins s σ H _ I ht) (fun u s' ⟨a, oe, vs, sI, H', cls, d, e1, J, e2, e3, e4, e5, e6, e7, e8, e9, e10, e11, q⟩ => ⟨a, oe, vs, sI, H', cls, d, e1, J, e2, e3, e4, e5, e6, e7, e8, e9, e10, e11, q (kf_of J)⟩) fun _ _ z => z
/-- raise x(..) -/
def mRaise (x : Str) (names : List Str) (fs : EvA) : EvS := fun ρ => bnd (fs ρ) fun p => if p.1.length = names.length ∧ p.1.length ≤ 1000 ∧ p.1 ≠ [] then .error (.exc x (names.zip p.1) p.2) else stuck
theorem lookup_rev : ∀ {fs : List Str} {vs : List V}, fs.Nodup → ∀ f, (fs.zip vs).reverse.lookup f = (fs.zip vs).lookup f := by
  intro fs vs nd f
  have key : ∀ l : List (Str × V), (l.map (·.1)).Nodup → l.reverse.lookup f = l.lookup f := by
    intro l
    induction l with
    | nil => intro _; rfl
    | cons p l ih =>
      intro hn
      obtain ⟨y, v⟩ := p
      rw [List.map_cons, List.nodup_cons] at hn
      rw [List.reverse_cons]
      have app : ∀ (a b : List (Str × V)), (a ++ b).lookup f = (a.lookup f).or (b.lookup f) := by
        intro a b
        induction a with
        | nil => simp
        | cons q a ih2 =>
          obtain ⟨z, u⟩ := q
          by_cases h : (f == z) = true
          · simp [List.lookup, h]
          · have h' : (f == z) = false := by simpa using h
            simp [List.lookup, h', ih2]
      rw [app, ih hn.2]
      by_cases h : f = y
      · subst h
        have : l.lookup f = none := by
          cases hl : l.lookup f with
          | none => rfl
          | some v' =>
            exact absurd (List.mem_map.mpr ⟨(f, v'), PySem.mem_of_lookup hl, rfl⟩) hn.1
        rw [this]
        simp [List.lookup]
      · have h' : (f == y) = false := by simpa using h
        simp [List.lookup, h']
  refine key _ ?_
  have sub : ((fs.zip vs).map (·.1)).Sublist fs := by
    clear key
    induction fs generalizing vs with
    | nil => simp
    | cons p fs ih =>
      cases vs with
      | nil => simp
      | cons v vs => simpa using ih (vs := vs) (List.nodup_cons.mp nd).2
  exact nd.sublist sub
theorem ds_raise {names : List Str} {fs : EvA} {pos' : Pos} (hx : HasX X.prog X.w X.K X.mg X.base k x names) (hr : Room (k + 1) X.A) (hc : X.calm = true) (tk : L2N.Takes X J.W) (ha : PA X (e :: es) (tA X.K J fs)) (hn : names.Nodup := by decide) (hg : Gl X x := by rfl)
    (hdb : (x == ("__debug__" : Str)) = false := by decide) (he : starEach (e :: es) X.env = (false, eval e X.env) :: starEach es X.env := by rfl) (hpl : (backTo pos (starEach es X.env)).any (·.1) = false := by rfl) :
    PS X (.Raise (some (.Call (.Name x p) (e :: es) [] pos)) none pos') (tS X.K J (mRaise x names fs)) := by
  obtain ⟨C, fi, fd, ps, hm, hcl, T, iC, tI, F, hb, hps⟩ := hx.ex
  refine PS.imp (L2N.ps_raise hc tk (pmk_pre (pmk_new T iC tI F hr hb hps hg hm ha hdb he hpl))) fun E σ H h => ?_
  obtain ⟨G, ρ, R, h⟩ := h
  refine ⟨G, ρ, R, h.e.bnd fun q h vs H1 R1 r1 => ?_⟩
  split at h
  · rename_i hh
    obtain ⟨h1, h2, h3⟩ := hh
    have hvl := r1.len
    refine ⟨by omega, by omega, fun d H' hd hx hk kf => ?_⟩
    have sm : Same H1 H' := fun b o z => by
      rw [hk b (fun e => by rw [e, hd] at z; cases z) (by rw [z]; exact fun e => nomatch e)]
      exact z
    refine h (.ref C) (some d) H' (R1.same kf sm) ⟨C, hcl, rfl, .inr ⟨d, vs, _, rfl, R1.nown hd, hx, fun f => ?_, ?_⟩⟩
    · have e1 : (names.zip q.1).map (·.1) = names := List.map_fst_zip (by omega)
      rw [e1]
      exact lookup_rev hn f
    · have e2 : (names.zip q.1).map (·.2) = q.1 := List.map_snd_zip (by omega)
      rw [e2]
      exact r1.same sm
  · exact h.elim
end
end L2.DL

namespace L2.DL
open PySem PySem.Spec PyProof.Rows

/-! ## names of the module -/
def GlobD (K : PySem.W.Frag) (mg : Str → Option Value) (x : Str) (d : D) : Prop := ∃ (v : V) (u : Value), mg x = some u ∧ RelV v u ∧ ∀ (M : Addr → Prop) (H : Hp), KF K H → (∀ a, M a → H a ≠ none) → Rp K M H v d
def atomEq : D → Value → Bool
  | .int i, .int j _ => decide (i = j)
  | .str x, .str y _ => decide (x = y)
  | .bool a, .bool b => a == b
  | .none, .none => true
  | _, _ => false
def atomV : D → V
  | .int i => .int i
  | .str x => .str x
  | .bool b => .bl b
  | _ => .non
theorem atom_ok {d : D} {u : Value} (h : atomEq d u = true) : RelV (atomV d) u ∧ ∀ (K : PySem.W.Frag) (M : Addr → Prop) (H : Hp), Rp K M H (atomV d) d := by
  cases d with
  | int i => cases u with
    | int j t => obtain rfl := of_decide_eq_true h; exact ⟨⟨t, rfl⟩, fun K M H => .int i⟩
    | _ => cases h
  | str x => cases u with
    | str y t => obtain rfl := of_decide_eq_true h; exact ⟨⟨t, rfl⟩, fun K M H => .str x⟩
    | _ => cases h
  | bool a => cases u with
    | bool b => have : a = b := by simpa [atomEq] using h
                subst this; exact ⟨rfl, fun K M H => .bl a⟩
    | _ => cases h
  | none => cases u with
    | none => exact ⟨rfl, fun K M H => .non⟩
    | _ => cases h
  | _ => cases h
def atomsEq : List D → List Value → Bool
  | [], [] => true
  | d :: ds, u :: us => atomEq d u && atomsEq ds us
  | _, _ => false
theorem atoms_ok : ∀ {ds : List D} {us : List Value}, atomsEq ds us = true → Vals (ds.map atomV) us ∧ ∀ (K : PySem.W.Frag) (M : Addr → Prop) (H : Hp), RpA K M H (ds.map atomV) ds
  | [], [], _ => ⟨.nil, fun _ _ _ => .nil⟩
  | [], _ :: _, h => by cases h
  | _ :: _, [], h => by cases h
  | d :: ds, u :: us, h => by
    obtain ⟨h1, h2⟩ := Bool.and_eq_true_iff.mp h
    obtain ⟨a1, a2⟩ := atom_ok h1
    obtain ⟨b1, b2⟩ := atoms_ok h2
    exact ⟨.cons a1 b1, fun K M H => .cons (a2 K M H) (b2 K M H)⟩
theorem glob_atom {K : PySem.W.Frag} {mg : Str → Option Value} {h : Heap} {x : Str} {d : D} {u : Value} (X : K.In h) (G : h.Ns mainGlobals mg) (e : PySem.W.nsIn K mainGlobals x = some (some u)) (b : atomEq d u = true) : GlobD K mg x d :=
  ⟨atomV d, u, PySem.W.mg_of X G e, (atom_ok b).1, fun M H _ _ => (atom_ok b).2 K M H⟩
theorem glob_tup {K : PySem.W.Frag} {mg : Str → Option Value} {h : Heap} {x : Str} {ds : List D} {a : Addr} {its : Array Value} {n : Nat} {od : Option Addr} {sl : Array (Option Value)} (X : K.In h) (G : h.Ns mainGlobals mg) (e : PySem.W.nsIn K mainGlobals x = some (some (.ref a)))
    (l : K.lookup a = some ⟨.type "tuple", od, .seq its n, sl⟩) (b : atomsEq ds its.toList = true) (hz : its.size ≤ 1000 := by decide) : GlobD K mg x (.tuple ds) := by
  refine ⟨.ref a, .ref a, PySem.W.mg_of X G e, rfl, fun M H kf hM => .tup (fun z => hM a z (kf a _ l)) (.inr ⟨_, its, n, l, rfl, rfl, k1000 hz, (atoms_ok b).1⟩) ((atoms_ok b).2 K M H)⟩
section
variable {X : Cx} {J : Jx} {x : Str} {pos p : Pos} {e : Expr} {es : List Expr} {d : D} {f : EvF} {fs : EvA}
theorem de_glob (h : GlobD X.K X.mg x d) (hg : Gl X x := by rfl) (hd : (x == ("__debug__" : Str)) = false := by decide) : PE X (.Name x pos) (tE X.K J (mC d)) := by
  obtain ⟨v, u, hm, r, hr⟩ := h
  refine PE.by (pe_glob hg hm r hd) ?_
  rintro σ H Q ⟨G, ρ, R, h⟩
  exact fun kf => h v H R (hr _ H kf R.domM)
/-! ## an expression alone -/
def mExpr (f : EvF) : EvS := fun ρ => bnd (f ρ) fun p => .ok (.nx, p.2)
theorem ds_expr (h : PE X e (tE X.K J f)) (hs : swapsWith e none pos.line X.env = pure false := by rfl) : PS X (.Expr e pos) (tS X.K J (mExpr f)) := by
  refine PS.imp (ps_expr h hs) ?_
  rintro E σ H ⟨G, ρ, R, h⟩
  exact ⟨G, ρ, R, h.e.bnd fun p h v H' R' r => h σ H' R'⟩
/-! ## *x in a display -/
def mStar (f : EvF) (fs : EvA) : EvA := fun ρ => bnd (f ρ) fun p => bnd (pur (seqD p.1)) fun z => bnd (fs p.2) fun q => .ok (z.2 ++ q.1, q.2)
theorem sq_or {K : PySem.W.Frag} {H : Hp} {t : Bool} {a : Addr} {vs : List V} (h : IsSq K H t a vs) : SqT K H a vs ∨ SqL K H a vs := by
  unfold IsSq at h
  cases t with
  | true => rw [if_pos rfl] at h; exact .inl h
  | false => rw [if_neg Bool.false_ne_true] at h; exact .inr h
/-- items are held -/
def Gh.holdA (G : Gh) (vs : List V) (ds : List D) : Gh := { G with hd := fun v d => G.hd v d ∨ ∃ j : Nat, vs[j]? = some v ∧ ds[j]? = some d }
section
variable {K : PySem.W.Frag} {J : Jx} {G : Gh} {ρ : DEnv} {σ : St} {H : Hp} {vs : List V} {ds : List D}
theorem Rel.holdA (R : Rel K J G ρ σ H) (r : RpA K (MM G ρ σ) H vs ds) : Rel K J (G.holdA vs ds) ρ σ H :=
  ⟨R.len, R.kf, R.dom, R.dat, R.own, R.sep, fun x e z => by
    rcases z with z | ⟨j, h1, h2⟩
    · exact R.held x e z
    · obtain ⟨d', e', q⟩ := r.get h1
      rw [h2] at e'
      cases e'
      exact q, R.keep, R.exn, R.raw, R.kn⟩
theorem Rel.unholdA (R : Rel K J (G.holdA vs ds) ρ σ H) (hl : vs.length = ds.length) : Rel K J G ρ σ H ∧ RpA K (MM G ρ σ) H vs ds :=
  ⟨⟨R.len, R.kf, R.dom, R.dat, R.own, R.sep, fun x e z => R.held x e (.inl z), R.keep, R.exn, R.raw, R.kn⟩, rpA_of hl fun j v d h1 h2 => R.held v d (.inr ⟨j, h1, h2⟩)⟩
theorem wE_holdA {c : Str} {fs : List (Str × D)} (hl : vs.length = ds.length) (h : wE K J G σ c fs ρ) : wE K J (G.holdA vs ds) σ c fs ρ := fun cls d H' R z => h cls d H' (R.unholdA hl).1 z
end
theorem da_star (he : PE X e (tE X.K J f)) (hs : PA X es (tA X.K J fs)) (hst : starEach (.Starred e p :: es) X.env = (true, eval e X.env) :: starEach es X.env := by rfl) : PA X (.Starred e p :: es) (tA X.K J (mStar f fs)) := by
  refine PA.by (StX.pa_star he hs hst) ?_
  rintro σ H Q ⟨G, ρ, R, h⟩
  refine ⟨G, ρ, R, h.bnd fun q h v H1 R1 r1 => ?_⟩
  obtain ⟨z, h2, h⟩ := h.pur
  obtain ⟨a, rfl⟩ := held_ref r1 h2
  obtain ⟨vs, hq, hr⟩ := held_sq r1 h2
  have hl := hr.len
  refine ⟨a, vs, rfl, sq_or hq, G.holdA vs z.2, q.2, R1.holdA hr, (h.imp (fun _ _ _ z => wE_holdA hl z) fun _ z => z).bnd fun q2 h y H2 R2 r2 kf => ?_⟩
  obtain ⟨R2, hr'⟩ := R2.unholdA hl
  exact h _ H2 R2 (hr'.append r2)
/-- .. of a list of the def's own -/
def mStarO (i : Nat) (fs : EvA) : EvA := fun ρ => bnd (pur (ownAt i ρ)) fun xs => bnd (fs ρ) fun q => .ok (xs ++ q.1, q.2)
theorem da_starO (i : Nat) {px : Pos} (hs : PA X es (tA X.K J fs)) (hN : X.N[i]? = some x := by rfl) (hv : Vis X.env.scope x := by first | exact Or.inl rfl | exact Or.inr (Or.inl rfl) | exact Or.inr (Or.inr rfl)) (hd : (x == ("__debug__" : Str)) = false := by decide)
    (hcd : (x == ("__classdict__" : Str)) = false := by decide) (hst : starEach (.Starred (.Name x px) p :: es) X.env = (true, eval (.Name x px) X.env) :: starEach es X.env := by rfl) : PA X (.Starred (.Name x px) p :: es) (tA X.K J (mStarO i fs)) := by
  refine PA.by (StX.pa_star (pv i hN hv hd hcd) hs hst) ?_
  rintro σ H Q ⟨G, ρ, R, h⟩
  obtain ⟨xs, h2, h⟩ := h.pur
  obtain ⟨b, e0⟩ := ownAt_inv h2
  obtain ⟨a, u, s0, ha, hr, _⟩ := R.own i _ _ e0
  obtain ⟨vs, rfl, hr2⟩ := hr.lst_inv
  have hl := hr2.len
  refine ⟨.ref a, s0, a, vs, rfl, .inr (SqL.of ha), G.holdA vs xs, ρ, R.holdA hr2, (h.imp (fun _ _ _ z => wE_holdA hl z) fun _ z => z).bnd fun q2 h y H2 R2 r2 kf => ?_⟩
  obtain ⟨R2, hr'⟩ := R2.unholdA hl
  exact h _ H2 R2 (hr'.append r2)
/-! ## x[::-1] -/
def revD : D → Res D
  | .list xs => .ok (.list xs.reverse)
  | .tuple xs => .ok (.tuple xs.reverse)
  | _ => stuck
end
end L2.DL

namespace L2.DL
open PySem PySem.Spec PyProof.Rows

/-! ## own objects read at once -/
def obAt (i : Nat) (ρ : DEnv) : Res D := match ρ[i]? with
  | some (some (Sl.ob _ o)) => (match o.dat with | some d => .ok d | none => stuck)
  | _ => stuck
theorem obAt_inv {i : Nat} {ρ : DEnv} {d : D} (h : obAt i ρ = .ok d) : ∃ b o, ρ[i]? = some (some (Sl.ob b o)) ∧ o.dat = some d := by
  unfold obAt at h
  split at h
  · rename_i b o e
    split at h
    · rename_i d' e'
      cases h
      exact ⟨b, o, e, e'⟩
    · cases h
  · cases h
theorem ob_false {K : PySem.W.Frag} {J : Jx} {G : Gh} {ρ : DEnv} {σ : St} {H : Hp} {i : Nat} {d : D} (R : Rel K J G ρ σ H) (h : obAt i ρ = .ok d) : ∃ a, σ[i]? = some (some (V.ref a)) ∧ Rp K (fun _ => False) H (.ref a) d := by
  obtain ⟨b, o, e, e'⟩ := obAt_inv h
  obtain ⟨a, u, h1, h2, h3, _⟩ := R.own i b _ e
  exact ⟨a, h1, (h3.weak fun _ z => z.elim).dat e' h2 fun z => z⟩
section
variable {X : Cx} {J : Jx} {x : Str} {px pos : Pos} {b e : Expr} {fb fa : EvF}
/-- y in d, y not in d, d a table of the def's own -/
def mCmpRD (g : D → D → Res Bool) (fa : EvF) (i : Nat) : EvF := fun ρ => bnd (fa ρ) fun p => bnd (pur (obAt i p.2)) fun d => bnd (pur (g p.1 d)) fun k => .ok (.bool k, p.2)
theorem rd_cmpRD {K : PySem.W.Frag} {J : Jx} {g : D → D → Res Bool} {i : Nat} {σ : St} {H : Hp} {G : Gh} {ρ : DEnv} {kk : D × DEnv → Prop} {Q : VK} (R : Rel K J G ρ σ H) (h : Out (wE K J G σ) (mCmpRD g fb i ρ) kk) (hq : ∀ k ρ' H', kk (.bool k, ρ') → Rel K J G ρ' σ H' → Q (.bl k) H') : tE K J fb σ H fun x H1 => tVar i σ H1 fun y H2 => rB K g x y H2 Q := by
  refine ⟨G, ρ, R, h.bnd fun p h y H2 R2 r2 => ?_⟩
  obtain ⟨d, h2, h⟩ := h.pur
  obtain ⟨k, h3, h⟩ := h.pur
  obtain ⟨a1, s1, r1⟩ := ob_false R2 h2
  exact ⟨_, s1, fun _ => False, _, _, k, r2.weak fun _ z => z.elim, r1, h3, hq k _ _ h.ok R2⟩
theorem de_cmpRD (i : Nat) {op : CmpOp} {g : D → D → Res Bool} (ho : OpR X (compareOp op) (rB X.K g)) (hb : PE X b (tE X.K J fb)) (hN : X.N[i]? = some x := by rfl) (hv : Vis X.env.scope x := by first | exact Or.inl rfl | exact Or.inr (Or.inl rfl) | exact Or.inr (Or.inr rfl)) (hd : (x == ("__debug__" : Str)) = false := by decide)
    (hcd : (x == ("__classdict__" : Str)) = false := by decide) (hm : behindInMarks op (.Name x px) = false := by first | exact nomark _ | rfl) : PE X (.Compare b [op] [.Name x px] pos) (tE X.K J (mCmpRD g fb i)) := by
  refine PE.by (pe_cmpR ho hb (pv i hN hv hd hcd) hm) ?_
  rintro σ H Q ⟨G, ρ, R, h⟩
  exact rd_cmpRD R h fun k ρ' H' z R' _ => z _ _ R' (.bl k)
theorem dt_cmpRD (i : Nat) {op : CmpOp} {g : D → D → Res Bool} (ho : OpR X (compareOp op) (rB X.K g)) (hb : PE X b (tE X.K J fb)) (hN : X.N[i]? = some x := by rfl) (hv : Vis X.env.scope x := by first | exact Or.inl rfl | exact Or.inr (Or.inl rfl) | exact Or.inr (Or.inr rfl)) (hd : (x == ("__debug__" : Str)) = false := by decide)
    (hcd : (x == ("__classdict__" : Str)) = false := by decide) (hm : behindInMarks op (.Name x px) = false := by first | exact nomark _ | rfl) : PT X (.Compare b [op] [.Name x px] pos) (tTs X.K J (mCmpRD g fb i)) := by
  refine PT.by (pt_cmpR ho hb (pv i hN hv hd hcd) hm) ?_
  rintro σ H Q ⟨G, ρ, R, h⟩
  refine rd_cmpRD (Q := fun v H' => ∃ b, v = .bl b ∧ (KF X.K H' → Q b H')) R h fun k ρ' H' z R' => ?_
  obtain ⟨b, e, z⟩ := z
  cases e
  exact ⟨_, rfl, fun _ => z _ R'⟩
end

/-! ## a table that is read at once -/
def tblD : D → Res (List (D × D))
  | .dict kvs => .ok kvs
  | _ => stuck
abbrev EvT := DEnv → Res (List (D × D) × DEnv)
def tT (K : PySem.W.Frag) (J : Jx) (f : EvT) : TE := fun σ H Q => ∃ G ρ, Rel K J G ρ σ H ∧ Out (wE K J G σ) (f ρ) fun p =>
  ∀ a hk H', Rel K J G p.2 σ H' → H' a = some (.dK hk) → RpKK K (MM G p.2 σ) H' hk p.1 → Q (.ref a) H'
section
variable {X : Cx} {J : Jx} {x : Str} {px pos p p2 apos cpos : Pos} {b e e2 : Expr} {fb fa f fc : EvF} {ft : EvT} {fn : EvN}
def mTb (f : EvF) : EvT := fun ρ => bnd (f ρ) fun p => bnd (pur (tblD p.1)) fun z => .ok (z, p.2)
theorem db_of (h : PE X e (tE X.K J f)) : PE X e (tT X.K J (mTb f)) := by
  refine PE.by h ?_
  rintro σ H Q ⟨G, ρ, R, h⟩
  refine ⟨G, ρ, R, h.bnd fun p h v H' R' r _ => ?_⟩
  obtain ⟨z, h2, h⟩ := h.pur
  obtain ⟨d, ρ1⟩ := p
  cases d with
  | dict kvs =>
    cases h2
    obtain ⟨a, hk, rfl, _, q, r⟩ := r.dict_inv
    exact h a hk H' R' q r
  | _ => cases h2
def mTbO (i : Nat) : EvT := fun ρ => match ρ[i]? with | some (some (Sl.ob _ (.dic kvs))) => .ok (kvs, ρ) | _ => stuck
theorem mTbO_inv {i : Nat} {ρ : DEnv} {p : List (D × D) × DEnv} (h : mTbO i ρ = .ok p) : p.2 = ρ ∧ ∃ b, ρ[i]? = some (some (Sl.ob b (.dic p.1))) := by
  unfold mTbO at h
  split at h
  · rename_i b kvs e
    cases h
    exact ⟨rfl, b, e⟩
  · cases h
theorem Rel.ownT {K : PySem.W.Frag} {J : Jx} {G : Gh} {ρ : DEnv} {σ : St} {H : Hp} {i : Nat} {b : Bool} {kvs : List (D × D)} (R : Rel K J G ρ σ H) (e : ρ[i]? = some (some (Sl.ob b (.dic kvs)))) : ∃ a hk, σ[i]? = some (some (V.ref a)) ∧ H a = some (.dK hk) ∧ RpKK K (MM G ρ σ) H hk kvs := by
  obtain ⟨a, u, h1, h2, h3, _⟩ := R.own i b _ e
  cases h3 with
  | dicK r => exact ⟨a, _, h1, h2, r⟩
theorem db_own (i : Nat) (hN : X.N[i]? = some x := by rfl) (hv : Vis X.env.scope x := by first | exact Or.inl rfl | exact Or.inr (Or.inl rfl) | exact Or.inr (Or.inr rfl)) (hd : (x == ("__debug__" : Str)) = false := by decide)
    (hcd : (x == ("__classdict__" : Str)) = false := by decide) : PE X (.Name x pos) (tT X.K J (mTbO i)) := by
  refine PE.by (pv i hN hv hd hcd) ?_
  rintro σ H Q ⟨G, ρ, R, h⟩
  unfold mTbO at h
  split at h
  · rename_i b kvs e
    obtain ⟨a, hk, s1, hH, r⟩ := R.ownT e
    exact ⟨.ref a, s1, fun _ => h a hk H R hH r⟩
  · exact h.elim
def mTbN (f : EvN) : EvT := fun ρ => bnd (f ρ) fun p => match p.1 with | .dic kvs => .ok (kvs, p.2) | _ => stuck
theorem db_new (h : PE X e (tN X.K J fn)) : PE X e (tT X.K J (mTbN fn)) := by
  refine PE.by h ?_
  rintro σ H Q ⟨G, ρ, R, h⟩
  refine ⟨G, ρ, R, h.bnd fun p h a u H' R' ha hx hM hf kf => ?_⟩
  obtain ⟨o, ρ1⟩ := p
  cases hx with
  | dicK r => exact h.ok a _ H' R'.unadd ha (r.weak fun b z => mm_add.mpr (.inl z))
  | _ => exact h.elim

/-! ### what is asked of it -/
/-- d[k] -/
def mTIx (ft : EvT) (fk : EvF) : EvF := fun ρ => bnd (ft ρ) fun p => bnd (fk p.2) fun q => bnd (pur (dIx p.1 q.1)) fun z => .ok (z, q.2)
/-- .. of the def's own -/
def mOIx (i : Nat) (fk : EvF) : EvF := fun ρ => bnd (pur (mTbO i ρ)) fun _ => bnd (fk ρ) fun q => bnd (pur (mTbO i q.2)) fun p => bnd (pur (dIx p.1 q.1)) fun z => .ok (z, q.2)
theorem dIx_get {K : PySem.W.Frag} {M : Addr → Prop} {H : Hp} {a : Addr} {hk : List (Key × V)} {kvs : List (D × D)} {y : V} {k z : D} (ha : H a = some (.dK hk)) (r : RpKK K M H hk kvs) (ry : Rp K M H y k) (h : dIx kvs k = .ok z) : ∃ v, DGet H a y (some v) ∧ Rp K M H v z := by
  unfold dIx isKey at h
  cases e : kk k with
  | none => rw [e] at h; cases h
  | some k' =>
    rw [e] at h
    obtain rfl := kk_inv e
    obtain rfl := ry.kD_inv
    have rf := r.find k'
    cases ef : dFind kvs (kD k') with
    | none => simp [ef] at h
    | some w =>
      simp [ef] at h
      subst h
      rw [ef] at rf
      cases ev : valV hk k' with
      | none => rw [ev] at rf; exact rf.elim
      | some x =>
        rw [ev] at rf
        exact ⟨x, by rw [← ev]; exact DGet.k ha, rf⟩
theorem de_oix (i : Nat) (hu : X.A.units + 64 < cLine) (hb : PE X b (tE X.K J fb)) (hN : X.N[i]? = some x := by rfl) (hv : Vis X.env.scope x := by first | exact Or.inl rfl | exact Or.inr (Or.inl rfl) | exact Or.inr (Or.inr rfl)) (hd : (x == ("__debug__" : Str)) = false := by decide)
    (hcd : (x == ("__classdict__" : Str)) = false := by decide) (hs : NoSl b := by exact fun _ _ => rfl) : PE X (.Subscript (.Name x px) b pos) (tE X.K J (mOIx i fb)) := by
  refine PE.by (pe_dget (by omega) (pv i hN hv hd hcd) hb hs) ?_
  rintro σ H Q ⟨G, ρ, R, h⟩
  obtain ⟨q0, h0, h⟩ := h.pur
  obtain ⟨_, b0, e0⟩ := mTbO_inv h0
  obtain ⟨a0, hk0, s0, _⟩ := R.ownT e0
  refine ⟨_, s0, G, ρ, R, h.bnd fun p h y H2 R2 r2 => ?_⟩
  obtain ⟨q1, h1, h⟩ := h.pur
  obtain ⟨z, h3, h⟩ := h.pur
  obtain ⟨_, b1, e1⟩ := mTbO_inv h1
  obtain ⟨a1, hk1, s1, hH, r1⟩ := R2.ownT e1
  rw [s0] at s1
  cases s1
  obtain ⟨v, g, rv⟩ := dIx_get hH r1 r2 h3
  exact ⟨a0, v, rfl, g, fun kf => h.ok v H2 R2 rv⟩
/-- len(d) -/
def mTLen (ft : EvT) : EvF := fun ρ => bnd (ft ρ) fun p => .ok (.int p.1.length, p.2)
theorem de_tlen (hm : X.mg "len" = none) (he : PE X e (tT X.K J ft)) (hg : Gl X "len" := by rfl) (hs : starEach (e :: []) X.env = (false, eval e X.env) :: starEach [] X.env := by rfl) (hpl : (backTo pos (starEach [] X.env)).any (·.1) = false := by rfl) :
    PE X (.Call (.Name "len" p) [e] [] pos) (tE X.K J (mTLen ft)) := by
  refine PE.by (pe_callB call_lenD hg hm (by decide +kernel) (pa_cons he pa_nil hs) (by decide) (by decide) hs hpl) ?_
  rintro σ H Q ⟨G, ρ, R, h⟩
  exact ⟨G, ρ, R, h.bnd fun p h a hk H' R' ha r => ⟨a, hk, rfl, ha, fun kf => by rw [r.len]; exact h.ok _ _ R' (.int _)⟩⟩
/-- sorted(d), its keys whole numbers -/
def intKeys : List (D × D) → Option (List Int)
  | [] => some []
  | (.int i, _) :: r => (intKeys r).map (i :: ·)
  | _ => none
def dSorted (kvs : List (D × D)) : Res (List D) := match intKeys kvs with
  | some ks => if ks.length < 64 then .ok ((ks.mergeSort (fun a b => decide (a ≤ b))).map PyData.int) else stuck
  | none => stuck
def mTSort (ft : EvT) : EvA := fun ρ => bnd (ft ρ) fun p => bnd (pur (dSorted p.1)) fun z => .ok (z, p.2)
theorem intKeys_hk {K : PySem.W.Frag} {M : Addr → Prop} {H : Hp} : ∀ {hk : List (Key × V)} {kvs : List (D × D)} {ks : List Int}, RpKK K M H hk kvs → intKeys kvs = some ks → hk.map (·.1) = ks.map Sum.inl := by
  intro hk
  induction hk with
  | nil => intro kvs ks h q; rcases h.cases with ⟨_, rfl⟩ | ⟨_, _, _, _, _, e, _⟩
           · cases q; rfl
           · cases e
  | cons p r ih =>
    intro kvs ks h q
    rcases h.cases with ⟨e, _⟩ | ⟨k', v, r', d, t, e, rfl, h1, h2⟩
    · cases e
    · cases e
      cases k' with
      | inr y => cases q
      | inl i =>
        simp only [kD, intKeys, Option.map_eq_some_iff] at q
        obtain ⟨l, e1, rfl⟩ := q
        rw [List.map_cons, List.map_cons, ih h2 e1]
theorem rpA_intsV {K : PySem.W.Frag} {M : Addr → Prop} {H : Hp} : ∀ ns : List Int, RpA K M H (ns.map V.int) (ns.map PyData.int)
  | [] => .nil
  | n :: ns => .cons (.int n) (rpA_intsV ns)
theorem sorted_is {ys ks : List Int} (hp : ys.Perm ks) (hs : ys.Pairwise (· ≤ ·)) : ys = ks.mergeSort (fun a b => decide (a ≤ b)) := by
  have h2 : (ks.mergeSort (fun a b => decide (a ≤ b))).Pairwise (fun a b => decide (a ≤ b) = true) := List.pairwise_mergeSort (fun a b c => by simp; omega) (fun a b => by simp; omega) ks
  refine List.Perm.eq_of_pairwise (le := fun a b => a ≤ b) (fun a b _ _ h1 h2 => by omega) hs (h2.imp fun h => by simpa using h) (hp.trans (List.mergeSort_perm ks _).symm)
theorem dl_tsort (hc : X.calm = true) (hm : X.mg "sorted" = none) (he : PE X e (tT X.K J ft)) (hg : Gl X "sorted" := by rfl) (hs : starEach (e :: []) X.env = (false, eval e X.env) :: starEach [] X.env := by rfl) (hpl : (backTo pos (starEach [] X.env)).any (·.1) = false := by rfl) :
    PE X (.Call (.Name "sorted" p) [e] [] pos) (tL X.K J (mTSort ft)) := by
  refine PE.by (pe_callB (call_sortedDI hc) hg hm (by decide +kernel) (pa_cons he pa_nil hs) (by decide) (by decide) hs hpl) ?_
  rintro σ H Q ⟨G, ρ, R, h⟩
  refine ⟨G, ρ, R, h.bnd fun p h a hk H' R' ha r => ?_⟩
  obtain ⟨z, h2, h⟩ := h.pur
  unfold dSorted at h2
  cases e : intKeys p.1 with
  | none => rw [e] at h2; cases h2
  | some ks =>
    rw [e] at h2
    obtain ⟨hl, h2⟩ := ite_ok h2
    refine ⟨a, hk, ks, rfl, .inl ha, intKeys_hk r e, hl, fun ys q hp hs hn kf => ?_⟩
    subst h2
    have := sorted_is hp hs
    subst this
    exact h.ok q _ _ (R'.fresh hn kf) upd_same (rpA_intsV _) (R'.nown hn) fun o z => by
      have := R'.keep q o z
      rw [hn] at this
      cases this
/-- list(d): its keys -/
def mTKeys (ft : EvT) : EvA := fun ρ => bnd (ft ρ) fun p => .ok (p.1.map (·.1), p.2)
theorem rpA_keys {K : PySem.W.Frag} {M N : Addr → Prop} {H H' : Hp} : ∀ {hk : List (Key × V)} {kvs : List (D × D)}, RpKK K M H hk kvs → RpA K N H' (hk.map fun kv => kV kv.1) (kvs.map (·.1)) := by
  intro hk
  induction hk with
  | nil => intro kvs h; rcases h.cases with ⟨_, rfl⟩ | ⟨_, _, _, _, _, e, _⟩
           · exact .nil
           · cases e
  | cons p r ih =>
    intro kvs h
    rcases h.cases with ⟨e, _⟩ | ⟨k', v, r', d, t, e, rfl, h1, h2⟩
    · cases e
    · cases e
      refine .cons ?_ (ih h2)
      cases k' with
      | inl i => exact .int i
      | inr y => exact .str y
theorem dl_tkeys (hc : X.calm = true) (hm : X.mg "list" = none) (he : PE X e (tT X.K J ft)) (hg : Gl X "list" := by rfl) (hs : starEach (e :: []) X.env = (false, eval e X.env) :: starEach [] X.env := by rfl) (hpl : (backTo pos (starEach [] X.env)).any (·.1) = false := by rfl) :
    PE X (.Call (.Name "list" p) [e] [] pos) (tL X.K J (mTKeys ft)) := by
  refine PE.by (pe_callTy (call_listD hc) hg hm (by decide +kernel) (pa_cons he pa_nil hs) (by decide) (by decide) hs hpl) ?_
  rintro σ H Q ⟨G, ρ, R, h⟩
  refine ⟨G, ρ, R, h.bnd fun p h a hk H' R' ha r => ⟨a, hk, rfl, .inl ha, fun q hn kf => ?_⟩⟩
  exact h.ok q _ _ (R'.fresh hn kf) upd_same (rpA_keys r) (R'.nown hn) fun o z => by
    have := R'.keep q o z
    rw [hn] at this
    cases this
/-- dict(d) -/
def mNT (ft : EvT) : EvN := fun ρ => bnd (ft ρ) fun p => .ok (.dic p.1, p.2)
theorem dn_tcopy (hm : X.mg "dict" = none) (he : PE X e (tT X.K J ft)) (hg : Gl X "dict" := by rfl) (hs : starEach (e :: []) X.env = (false, eval e X.env) :: starEach [] X.env := by rfl) (hpl : (backTo pos (starEach [] X.env)).any (·.1) = false := by rfl) :
    PE X (.Call (.Name "dict" p) [e] [] pos) (tN X.K J (mNT ft)) := by
  refine PE.by (pe_callTy call_dictD hg hm (by decide +kernel) (pa_cons he pa_nil hs) (by decide) (by decide) hs hpl) ?_
  rintro σ H Q ⟨G, ρ, R, h⟩
  refine ⟨G, ρ, R, h.bnd fun p h a hk H' R' ha r => ⟨a, hk, rfl, .inl ha, fun q hn kf => ?_⟩⟩
  have mv : ∀ b, ¬ MM G p.2 σ b → (H' b ≠ none ∨ X.K.lookup b ≠ none) → ¬ MM (G.add q) p.2 σ b ∧ ∀ o, H' b = some o → upd H' q (.dK hk) b = some o := fun b n z => by
    have t := off_move (M := MM G p.2 σ) (kf.free upd_same) hn b n z
    refine ⟨fun w => t.1 (mm_add.mp w), fun o e => ?_⟩
    rw [upd_ne (ne_of_none e hn)]
    exact e
  exact h.ok q _ _ (R'.fresh hn kf) upd_same (.dicK (r.move mv)) (R'.nown hn) fun o z => by
    have := R'.keep q o z
    rw [hn] at this
    cases this
end

/-! ## new tables -/
section
variable {X : Cx} {J : Jx} {x : Str} {pos p : Pos} {e : Expr} {f : EvF}
def mDic0 : EvT := fun ρ => .ok ([], ρ)
theorem dn_dic0 : PE X (.Dict [] [] pos) (tN X.K J (mNT mDic0)) := by
  refine PE.by pe_dnewK ?_
  rintro σ H Q ⟨G, ρ, R, h⟩
  exact fun q hn kf => h.ok q _ _ (R.fresh hn kf) upd_same (.dicK .nil) (R.nown hn) fun o z => by
    have := R.keep q o z
    rw [hn] at this
    cases this
def mPairs : List (EvF × EvF) → EvT
  | [], ρ => .ok ([], ρ)
  | (fk, fv) :: r, ρ => bnd (fk ρ) fun p => bnd (fv p.2) fun q => bnd (mPairs r q.2) fun z => if isKey p.1 then .ok ((p.1, q.1) :: z.1, z.2) else stuck
def mTrs (K : PySem.W.Frag) (J : Jx) (ks : List (EvF × EvF)) : List (TE × TE) := ks.map fun p => (tE K J p.1, tE K J p.2)
theorem bnd_assoc {α β γ : Type} (x : Res α) (f : α → Res β) (g : β → Res γ) : bnd (bnd x f) g = bnd x fun a => bnd (f a) g := by cases x <;> rfl
theorem ite_okR {α : Type} {c : Prop} [Decidable c] {x : Res α} {a : α} (h : (if c then x else stuck) = .ok a) : c ∧ x = .ok a := by
  by_cases q : c
  · rw [if_pos q] at h; exact ⟨q, h⟩
  · rw [if_neg q] at h; cases h
theorem mPairs_len : ∀ {ks : List (EvF × EvF)} {ρ : DEnv} {z : List (D × D) × DEnv}, mPairs ks ρ = .ok z → z.1.length = ks.length
  | [], _, _, h => by cases h; rfl
  | (fk, fv) :: r, ρ, z, h => by
    obtain ⟨p, _, h⟩ := bnd_inv h
    obtain ⟨q, _, h⟩ := bnd_inv h
    obtain ⟨w, hw, h⟩ := bnd_inv h
    obtain ⟨_, h⟩ := ite_okR h
    cases h
    simp [mPairs_len hw]
theorem rd_pairs {K : PySem.W.Frag} {J : Jx} {σ : St} {α : Type} : ∀ (ks : List (EvF × EvF)) {G : Gh} {ρ : DEnv} {H : Hp} {f : List (D × D) × DEnv → Res α} {kk : α → Prop} {Q : List (V × V) → Hp → Prop}, Rel K J G ρ σ H → Out (wE K J G σ) (bnd (mPairs ks ρ) f) kk →
    (∀ kvs ρ' hk H', kvs.length = ks.length → Out (fun _ _ _ => True) (f (kvs, ρ')) kk → Rel K J G ρ' σ H' → RpKK K (MM G ρ' σ) H' hk kvs → Q (hk.map fun kv => (kV kv.1, kv.2)) H') → tPairs (mTrs K J ks) σ H Q
  | [], G, ρ, H, f, kk, Q, R, h, q => q [] ρ [] H rfl (h.imp (fun _ _ _ _ => trivial) fun _ z => z) R .nil
  | (fk, fv) :: r, G, ρ, H, f, kk, Q, R, h, q => by
    have e : bnd (mPairs ((fk, fv) :: r) ρ) f = bnd (fk ρ) fun p => bnd (fv p.2) fun q => bnd (mPairs r q.2) fun z => bnd (if isKey p.1 then .ok ((p.1, q.1) :: z.1, z.2) else stuck) f := by
      show bnd (bnd (fk ρ) _) f = _
      rw [bnd_assoc]
      congr 1
      funext p
      rw [bnd_assoc]
      congr 1
      funext q
      rw [bnd_assoc]
    rw [e] at h
    refine ⟨G, ρ, R, h.bnd fun p h x H1 R1 r1 => ⟨G, p.2, R1, h.bnd fun w h y H2 R2 r2 => ?_⟩⟩
    refine rd_pairs r (R2.hold r2) h.hold fun kvs ρ' hk H' hl hh R' rk => ?_
    obtain ⟨R3, r3⟩ := R'.unhold
    by_cases c : isKey p.1 = true
    · rw [if_pos c] at hh
      unfold isKey at c
      cases e : DL.kk p.1 with
      | none => rw [e] at c; cases c
      | some k =>
        have e1 := kk_inv e
        rw [e1] at r1
        obtain rfl := r1.kD_inv
        exact q ((p.1, w.1) :: kvs) ρ' ((k, y) :: hk) H' (by simp [hl]) hh R3 (by rw [e1]; exact .cons r3 rk)
    · rw [if_neg c] at hh
      exact hh.elim
def mDisp0 (ks : List (EvF × EvF)) : EvN := fun ρ => bnd (mPairs ks ρ) fun z => .ok (.dic (dMerge [] z.1), z.2)
def mDisp (ks : List (EvF × EvF)) : EvT := fun ρ => bnd (mPairs ks ρ) fun z => .ok (dMerge [] z.1, z.2)
theorem mNT_disp (ks : List (EvF × EvF)) : mNT (mDisp ks) = mDisp0 ks := by
  funext ρ
  unfold mNT mDisp mDisp0
  rw [bnd_assoc]
  rfl
variable {k v : Expr} {ks : List (Option Expr)} {vs : List Expr} {fk fv : EvF} {r : List (EvF × EvF)}
theorem dps_nil : PPs X pos [] [] (mTrs X.K J []) := pps_nil
theorem dps_cons (hk : PE X k (tE X.K J fk)) (hv : PE X v (tE X.K J fv)) (hr : PPs X pos ks vs (mTrs X.K J r)) : PPs X pos (some k :: ks) (v :: vs) (mTrs X.K J ((fk, fv) :: r)) := pps_cons hk hv hr
theorem dn_disp (hk : PE X k (tE X.K J fk)) (hv : PE X v (tE X.K J fv)) (hr : PPs X pos ks vs (mTrs X.K J r)) (hall : (some k :: ks).all (·.isSome) = true := by rfl) (hl : (some k :: ks).length = (v :: vs).length := by rfl) (h15 : (some k :: ks).length ≤ 15 := by decide)
    (hn : r.length = ks.length := by rfl) : PE X (.Dict (some k :: ks) (v :: vs) pos) (tN X.K J (mNT (mDisp ((fk, fv) :: r)))) := by
  rw [mNT_disp]
  refine PE.by (pe_disp (pps_cons (PE.pre hk) hv hr) hall hl (by simp) h15) ?_
  rintro σ H Q ⟨G, ρ, R, h⟩
  intro a hp kf
  have R0 := R.fresh (a := a) (o := .dK []) hp kf
  have fa : ∀ o, ¬ G.fx a o := fun o z => by
    have := R.keep a o z
    rw [hp] at this
    cases this
  have Rl : Rel X.K J ((G.add a).lockO a (.dK []) (.dic [])) ρ σ (upd H a (.dK [])) := R0.lockO (.inr rfl) upd_same (.dicK .nil)
  have sh : Shp (.dK []) (.dic []) := .dicK rfl
  have hw : Out (wE X.K J ((G.add a).lockO a (.dK []) (.dic [])) σ) (bnd (mPairs ((fk, fv) :: r) ρ) fun z => .ok (OB.dic (dMerge [] z.1), z.2)) _ := h.imp (fun _ _ _ z => wE_lockO sh z) fun _ z => z
  have main := rd_pairs ((fk, fv) :: r) Rl hw (Q := fun ps H2 => H2 a = some (.dK []) ∧ ∃ kvs : List (Key × V), ps = kvs.map (fun kv => (kV kv.1, kv.2)) ∧ kvs.length ≤ 15 ∧ (KF X.K (upd H2 a (.dK (mergeK [] kvs))) → Q (.ref a) (upd H2 a (.dK (mergeK [] kvs))))) fun kvs ρ' hk' H' hl' hh R' rk => ?_
  · exact main
  · obtain ⟨R1, hH, _⟩ := R'.unlockO sh
    have wk : ∀ b, MM (G.add a) ρ' σ b → MM ((G.add a).lockO a (.dK []) (.dic [])) ρ' σ b := fun b z => z
    have rk1 : RpKK X.K (MM (G.add a) ρ' σ) H' hk' kvs := rk.weak wk
    refine ⟨hH, hk', rfl, ?_, fun kf2 => ?_⟩
    · rw [rk1.len, hl']
      simp only [List.length_cons] at h15 ⊢
      omega
    · have R2 := R1.updM (o := .dK (mergeK [] hk')) (.inr rfl) (fun o z => fa o z) kf2 hH rfl
      have kp : Keeps (MM (G.add a) ρ' σ) H' (upd H' a (.dK (mergeK [] hk'))) := fun b u n e => by rw [upd_ne fun z => n (by rw [z]; exact .inl (.inr rfl))]; exact e
      refine hh.ok a _ _ R2 upd_same (.dicK ((rk1.merge .nil).mono (fun _ z => z) kp)) (fun z => ?_) fa
      rcases z with z | ⟨j, b', o', q1, q2⟩
      · exact R.dom a z hp
      · obtain ⟨c, u, g1, g2, g3, g4, _⟩ := R1.own j b' o' q1
        rw [q2] at g1
        cases g1
        exact g4 (.inr rfl)
end

/-! ## an own table is changed -/
section
variable {X : Cx} {J : Jx} {x : Str} {px pos p spos apos cpos : Pos} {b e : Expr} {fi f : EvF} {ft : EvT}
/-- d[k] = v -/
def mTPut (i : Nat) (fv fi : EvF) : EvS := fun ρ => bnd (fv ρ) fun v => bnd (pur (mTbO i v.2)) fun _ => bnd (fi v.2) fun q => match q.2[i]? with
  | some (some (Sl.ob b (.dic kvs))) => if isKey q.1 = true ∧ kvs.length < lim then .ok (.nx, q.2.set i (some (Sl.ob b (.dic (dPut kvs q.1 v.1))))) else stuck
  | _ => stuck
theorem ds_tput (i : Nat) (hu : X.A.units + 64 < cLine) (he : PE X e (tE X.K J f)) (hb : PE X b (tE X.K J fi)) (hN : X.N[i]? = some x := by rfl) (hv : Vis X.env.scope x := by first | exact Or.inl rfl | exact Or.inr (Or.inl rfl) | exact Or.inr (Or.inr rfl)) (hd : (x == ("__debug__" : Str)) = false := by decide)
    (hcd : (x == ("__classdict__" : Str)) = false := by decide) (hs : swapsWith e (some (.Subscript (.Name x px) b spos)) pos.line X.env = pure false := by rfl) :
    PS X (.Assign [.Subscript (.Name x px) b spos] e pos) (tS X.K J (mTPut i f fi)) := by
  refine PS.by (ps_dput (by omega) (pv i hN hv hd hcd) hb he hs) ?_
  rintro E σ H ⟨G, ρ, R, h⟩
  refine ⟨G, ρ, R, h.e.bnd fun v h y H1 R1 r1 => ?_⟩
  obtain ⟨q0, h0, h⟩ := h.pur
  obtain ⟨_, b0, e0⟩ := mTbO_inv h0
  obtain ⟨a0, hk0, s0, _⟩ := R1.ownT e0
  refine ⟨.ref a0, s0, G.hold y v.1, v.2, R1.hold r1, h.hold.bnd fun q h z H2 R2 r2 => ?_⟩
  obtain ⟨R3, r3⟩ := R2.unhold
  split at h
  · rename_i b1 kvs e1
    obtain ⟨⟨hk1, hl⟩, h⟩ := h.ite
    obtain ⟨a1, hk, s1, hH, rk⟩ := R3.ownT e1
    rw [s0] at s1
    cases s1
    unfold isKey at hk1
    cases ek : kk q.1 with
    | none => rw [ek] at hk1; cases hk1
    | some k =>
      have e2 := kk_inv ek
      have r2' : Rp X.K (MM G q.2 σ) H2 z (kD k) := by rw [← e2]; exact r2
      obtain rfl := r2'.kD_inv
      refine ⟨a0, _, rfl, DPut.k hH (by rw [rk.len]; have := lim_le (n := kvs.length + 1) hl; omega), fun kf => ?_⟩
      exact h σ _ (R3.write e1 s0 kf (.dicK (by rw [e2]; exact rk.put k r3)))
  · exact h.elim
/-- d.update(d2) -/
theorem mt_update : MtR X "dict.update" (fun x vs H Q => ∃ (a o : Addr) (hk hk2 : List (Key × V)), x = .ref a ∧ vs = [.ref o] ∧ a ≠ o ∧ H a = some (.dK hk) ∧ H o = some (.dK hk2) ∧ hk.length + hk2.length ≤ sizeLine ∧ Q .non (upd H a (.dK (mergeK hk hk2)))) := by
  rintro pins s σ H x xs v us Q I rx r ⟨a, o, hk, hk2, rfl, rfl, hne, ha, ho, hl, q⟩
  obtain rfl : v = .ref a := rx
  rw [Vals.ref1 r]
  obtain ⟨z1, lo1, vs1, rel1, dd1⟩ := dk_rd I.hok (.inl ha)
  obtain ⟨z2, lo2, vs2, rel2, dd2⟩ := dk_rd I.hok (.inl ho)
  refine call_meetsIn PySem.F.slot_dict_update dd1.typeIs PySem.F.entry_dict_update (PySem.F.args_dict_update_2 _ _) (meets_dict_update (mixKind X.prog X.w) a o hne lo2)
    ⟨vs1, vs2, dd1, dd2, by rw [← rel1.length, ← rel2.length]; exact hl, fun h' dd' _ hs => ⟨.non, _, ?_, rfl, q⟩⟩
  have he : ∃ q, h'.get? a = some q := let ⟨q, _, _, hq, _⟩ := dd'; ⟨q, hq⟩
  have hz : (mergeK hk hk2).length ≤ sizeLine := Nat.le_trans (length_mergeK hk2 hk) hl
  exact d_write I (by rw [ha]; exact True.intro) hs he (dk_new hz lo1 (rel2.merge rel1) dd')
theorem tyV_dic {K : PySem.W.Frag} {H : Hp} {a : Addr} {hk : List (Key × V)} (h : H a = some (.dK hk)) : tyV K "dict" (.ref a) H := .inr (.inr (.inl ⟨rfl, .inl ⟨hk, h⟩⟩))
theorem type_dict_update : typeOf (.builtin "dict.update") = pure (.type "method_descriptor") := by show builtinType _ = _; rw [builtinType_eq_fast]; kernel_rfl
def mTUpd (i : Nat) (f : EvN) : EvS := fun ρ => bnd (pur (mTbO i ρ)) fun _ => bnd (f ρ) fun q => match q.2[i]?, q.1 with
  | some (some (Sl.ob b (.dic kvs))), .dic more => if kvs.length + more.length ≤ lim then .ok (.nx, q.2.set i (some (Sl.ob b (.dic (dMerge kvs more))))) else stuck
  | _, _ => stuck
theorem ds_tupd (i : Nat) {fn : EvN} (he : PE X e (tN X.K J fn)) (hN : X.N[i]? = some x := by rfl) (hv : Vis X.env.scope x := by first | exact Or.inl rfl | exact Or.inr (Or.inl rfl) | exact Or.inr (Or.inr rfl)) (hd : (x == ("__debug__" : Str)) = false := by decide) (hcd : (x == ("__classdict__" : Str)) = false := by decide)
    (hst : starEach (e :: []) X.env = (false, eval e X.env) :: starEach [] X.env := by rfl)
    (hbase : attributeBase (.Name x px) "update" X.env (eval (.Name x px) X.env) = eval (.Name x px) X.env := by rfl)
    (hfew : ((backTo cpos (starEach (e :: []) X.env)).all (fun x => !x.1) && (backToKw cpos (keywordEach [] X.env)).all (fun x => x.1.isSome) && decide ((e :: []).length + ([] : List Keyword).length + (if ([] : List Keyword).isEmpty then 0 else 1) < 30)) = true := by rfl)
    (hline : (apos.endLine == cpos.line) = true := by rfl) (hplain : (backTo cpos (starEach [] X.env)).any (·.1) = false := by rfl) (hsw : swapsWith (.Call (.Attribute (.Name x px) "update" apos) [e] [] cpos) none pos.line X.env = pure false := by rfl) :
    PS X (.Expr (.Call (.Attribute (.Name x px) "update" apos) [e] [] cpos) pos) (tS X.K J (mTUpd i fn)) := by
  refine PS.by (ps_expr (pe_bm PySem.F.plainAttrs_dict PySem.F.slot_dict_update type_dict_update mt_update (pv i hN hv hd hcd) (pa_cons he pa_nil hst) hbase hfew hline hst hplain) hsw) ?_
  rintro E σ H ⟨G, ρ, R, h⟩
  obtain ⟨q0, h0, h⟩ := h.pur
  obtain ⟨_, b0, e0⟩ := mTbO_inv h0
  obtain ⟨a, hk0, s0, H0, _⟩ := R.ownT e0
  refine ⟨.ref a, s0, tyV_dic H0, G, ρ, R, h.e.bnd fun p h a2 u H1 R1 ha2 hx2 hM hf2 => ?_⟩
  obtain ⟨o, ρ1⟩ := p
  dsimp only at h hx2 R1 hM
  split at h
  · rename_i b1 kvs more e1
    obtain ⟨hl, h⟩ := h.ite
    have R1' := R1.unadd
    obtain ⟨a1, hk, s1, hH, rk⟩ := R1'.ownT e1
    rw [s0] at s1
    cases s1
    cases hx2 with
    | dicK r2 =>
      have r2' : RpKK X.K (MM G ρ1 σ) H1 _ more := r2.weak fun b z => mm_add.mpr (.inl z)
      refine ⟨a, a2, hk, _, rfl, rfl, fun e => hM (by rw [← e]; exact .inr ⟨i, b1, _, e1, s0⟩), hH, ha2, ?_, fun kf => ?_⟩
      · rw [rk.len, r2'.len]
        exact lim_le hl
      · exact h _ _ (R1'.write e1 s0 kf (.dicK (r2'.merge rk)))
  · exact h.elim
end

/-! ## what is computed, without slots -/
section
variable {ρ : DEnv} {i : Nat} {bb : Bool} {kvs : List (D × D)} {fa fb f fk fv : EvF} {ft : EvT} {qa qb' q qk qv' : Res D} {qt : Res (List (D × D))} {g : D → D → Res Bool} {r : List (EvF × EvF)} {qr : Res (List (D × D))}
theorem obAt_dic (h : ρ[i]? = some (some (Sl.ob bb (.dic kvs)))) : obAt i ρ = .ok (.dict kvs) := by unfold obAt; rw [h]; rfl
theorem mTbO_dic (h : ρ[i]? = some (some (Sl.ob bb (.dic kvs)))) : mTbO i ρ = .ok (kvs, ρ) := by unfold mTbO; rw [h]
@[simp] def qcmpRD (g : D → D → Res Bool) (a : Res D) (kvs : List (D × D)) : Res D := bnd a fun x => bnd (pur (g x (.dict kvs))) qb
theorem eCmpRD (a : Ev fa ρ qa) (h : ρ[i]? = some (some (Sl.ob bb (.dic kvs)))) : Ev (mCmpRD g fa i) ρ (qcmpRD g qa kvs) := by
  refine EvR.bnd a fun x => ?_
  dsimp only
  rw [obAt_dic h, pur_ok, bnd_ok]
  exact EvR.pur fun _ => EvR.ok
@[simp] def qtb (a : Res D) : Res (List (D × D)) := bnd a fun d => pur (tblD d)
theorem eTb (a : Ev fa ρ qa) : Ev (mTb fa) ρ (qtb qa) := EvR.bnd a fun _ => EvR.purk
theorem eTbO (h : ρ[i]? = some (some (Sl.ob bb (.dic kvs)))) : Ev (mTbO i) ρ (.ok kvs) := mTbO_dic h
theorem eTbN (a : Ev ft ρ qt) : Ev (mTbN (mNT ft)) ρ qt := by
  show EvR (mTbN (mNT ft) ρ) ρ qt
  unfold mTbN mNT
  rw [bnd_assoc]
  have := EvR.bnd (k := fun z => .ok z) (F := fun p => (.ok p : Res (List (D × D) × DEnv))) a fun z => EvR.ok
  have e1 : bnd (ft ρ) (fun p => (.ok p : Res (List (D × D) × DEnv))) = bnd (ft ρ) fun p => bnd (.ok (OB.dic p.1, p.2)) fun p => match p.1 with | .dic kvs => .ok (kvs, p.2) | _ => stuck := by cases ft ρ <;> rfl
  rw [← e1]
  have e2 : bnd qt (fun z => .ok z) = qt := by cases qt <;> rfl
  rw [e2] at this
  exact this
@[simp] def qoix (kvs : List (D × D)) (a : Res D) : Res D := bnd a fun x => pur (dIx kvs x)
theorem eOIx (h : ρ[i]? = some (some (Sl.ob bb (.dic kvs)))) (a : Ev fa ρ qa) : Ev (mOIx i fa) ρ (qoix kvs qa) := by
  show EvR (mOIx i fa ρ) ρ _
  unfold mOIx
  rw [mTbO_dic h, pur_ok, bnd_ok]
  refine EvR.bnd a fun x => ?_
  dsimp only
  rw [mTbO_dic h, pur_ok, bnd_ok]
  exact EvR.purk
@[simp] def qtlen (t : Res (List (D × D))) : Res D := bnd t fun kvs => .ok (.int kvs.length)
theorem eTLen (a : Ev ft ρ qt) : Ev (mTLen ft) ρ (qtlen qt) := EvR.bnd a fun _ => EvR.ok
@[simp] def qtsort (t : Res (List (D × D))) : Res (List D) := bnd t fun kvs => pur (dSorted kvs)
theorem eTSort (a : Ev ft ρ qt) : Ev (mTSort ft) ρ (qtsort qt) := EvR.bnd a fun _ => EvR.purk
@[simp] def qtkeys (t : Res (List (D × D))) : Res (List D) := bnd t fun kvs => .ok (kvs.map (·.1))
theorem eTKeys (a : Ev ft ρ qt) : Ev (mTKeys ft) ρ (qtkeys qt) := EvR.bnd a fun _ => EvR.ok
theorem eDic0 : Ev mDic0 ρ (.ok []) := rfl
@[simp] def qpnil : Res (List (D × D)) := .ok []
@[simp] def qpcons (k v : Res D) (r : Res (List (D × D))) : Res (List (D × D)) := bnd k fun x => bnd v fun y => bnd r fun z => if isKey x then .ok ((x, y) :: z) else stuck
theorem ePNil : Ev (mPairs []) ρ qpnil := rfl
theorem ePCons (a : Ev fk ρ qk) (b : Ev fv ρ qv') (c : Ev (mPairs r) ρ qr) : Ev (mPairs ((fk, fv) :: r)) ρ (qpcons qk qv' qr) := EvR.bnd a fun x => EvR.bnd b fun y => EvR.bnd c fun z => by
  dsimp only
  split
  · exact EvR.ok
  · exact EvR.no
@[simp] def qdisp (t : Res (List (D × D))) : Res (List (D × D)) := bnd t fun z => .ok (dMerge [] z)
theorem eDisp {ks : List (EvF × EvF)} (a : Ev (mPairs ks) ρ qt) : Ev (mDisp ks) ρ (qdisp qt) := EvR.bnd a fun _ => EvR.ok
@[simp] def qofT (t : Res (List (D × D))) : Res D := bnd t fun kvs => .ok (.dict kvs)
theorem eOfT (a : Ev ft ρ qt) : Ev (mOfN (mNT ft)) ρ (qofT qt) := by
  show EvR (mOfN (mNT ft) ρ) ρ _
  unfold mOfN mNT
  rw [bnd_assoc]
  exact EvR.bnd a fun z => EvR.ok
end
section
variable {β : Type} {ρ : DEnv} {i : Nat} {bb : Bool} {kvs : List (D × D)} {f fi : EvF} {ft : EvT} {q qi : Res D} {qt : Res (List (D × D))} {rest : EvS} {I : β → Ctl → DEnv → Prop} {kl : List (D × D) → Res β}
theorem sSetT (h : Ev ft ρ qt) (hk : ∀ d, Sim (rest (ρ.set i (some (Sl.ob false (.dic d))))) (kl d) I) (hi : Nat.blt i ρ.length = true := by rfl) : Sim (mSeq (mSetOb i (mNT ft)) rest ρ) (bnd qt kl) I := by
  have e : mSeq (mSetOb i (mNT ft)) rest ρ = bnd (ft ρ) fun p => if i < p.2.length then rest (p.2.set i (some (Sl.ob false (.dic p.1)))) else stuck := by
    show bnd (bnd (bnd (ft ρ) _) _) _ = _
    cases ft ρ with
    | error e => rfl
    | ok p => by_cases h : i < p.2.length <;> simp [h]
  rw [e]
  refine Sim.bnd h fun d => ?_
  rw [if_pos (blt_lt hi)]
  exact hk d
@[simp] def tputQ (kvs : List (D × D)) (k v : D) : Res (List (D × D)) := if isKey k = true ∧ kvs.length < lim then .ok (dPut kvs k v) else stuck
theorem sTPut (h0 : ρ[i]? = some (some (Sl.ob bb (.dic kvs)))) (h : Ev f ρ q) (h2 : Ev fi ρ qi) (hk : ∀ l, Sim (rest (ρ.set i (some (Sl.ob bb (.dic l))))) (kl l) I) :
    Sim (mSeq (mTPut i f fi) rest ρ) (bnd q fun v => bnd qi fun y => bnd (tputQ kvs y v) kl) I := by
  have e : mSeq (mTPut i f fi) rest ρ = bnd (f ρ) fun v => bnd (pur (mTbO i v.2)) fun _ => bnd (fi v.2) fun q => bnd (match q.2[i]? with
    | some (some (Sl.ob b (.dic kvs))) => if isKey q.1 = true ∧ kvs.length < lim then .ok (Ctl.nx, q.2.set i (some (Sl.ob b (.dic (dPut kvs q.1 v.1))))) else stuck
    | _ => stuck) fun p => match p.1 with | .nx => rest p.2 | c => .ok (c, p.2) := by
    show bnd (mTPut i f fi ρ) _ = _
    unfold mTPut
    rw [bnd_assoc]
    congr 1
    funext v
    rw [bnd_assoc]
    congr 1
    funext _
    rw [bnd_assoc]
    all_goals rfl
  rw [e]
  refine Sim.bnd h fun v => ?_
  dsimp only
  rw [mTbO_dic h0, pur_ok, bnd_ok]
  refine Sim.bnd h2 fun y => ?_
  dsimp only
  rw [h0]
  dsimp only
  unfold tputQ
  split
  · exact hk _
  · exact Sim.no
@[simp] def tupdQ (kvs more : List (D × D)) : Res (List (D × D)) := if kvs.length + more.length ≤ lim then .ok (dMerge kvs more) else stuck
theorem sTUpd (h0 : ρ[i]? = some (some (Sl.ob bb (.dic kvs)))) (h : Ev ft ρ qt) (hk : ∀ l, Sim (rest (ρ.set i (some (Sl.ob bb (.dic l))))) (kl l) I) :
    Sim (mSeq (mTUpd i (mNT ft)) rest ρ) (bnd qt fun more => bnd (tupdQ kvs more) kl) I := by
  have e : mSeq (mTUpd i (mNT ft)) rest ρ = bnd (pur (mTbO i ρ)) fun _ => bnd (ft ρ) fun q => bnd (match q.2[i]? with
    | some (some (Sl.ob b (.dic kvs))) => if kvs.length + q.1.length ≤ lim then .ok (Ctl.nx, q.2.set i (some (Sl.ob b (.dic (dMerge kvs q.1))))) else stuck
    | _ => stuck) fun p => match p.1 with | .nx => rest p.2 | c => .ok (c, p.2) := by
    show bnd (mTUpd i (mNT ft) ρ) _ = _
    unfold mTUpd mNT
    rw [bnd_assoc]
    congr 1
    funext _
    rw [bnd_assoc, bnd_assoc]
    congr 1
    funext q
    rw [bnd_ok]
    dsimp only
    congr 1
    split
    · rename_i e1 e2
      cases e2
      rw [e1]
    · rename_i hh
      split
      · rename_i e1
        exact absurd rfl (hh _ _ _ e1)
      · rfl
  rw [e, mTbO_dic h0, pur_ok, bnd_ok]
  refine Sim.bnd h fun more => ?_
  dsimp only
  rw [h0]
  dsimp only
  unfold tupdQ
  split
  · exact hk _
  · exact Sim.no
end

/-! ## what is written of the module's constants -/
structure GlobK (K : PySem.W.Frag) (x : Str) (d : D) : Prop where
  ex : (∃ u, PySem.W.nsIn K mainGlobals x = some (some u) ∧ atomEq d u = true) ∨ ∃ ds a od its n sl, d = .tuple ds ∧ PySem.W.nsIn K mainGlobals x = some (some (.ref a)) ∧ K.lookup a = some ⟨.type "tuple", od, .seq its n, sl⟩ ∧ atomsEq ds its.toList = true ∧ its.size ≤ 1000
theorem GlobK.a {K : PySem.W.Frag} {x : Str} {d : D} {u : Value} (h : PySem.W.nsIn K mainGlobals x = some (some u)) (b : atomEq d u = true) : GlobK K x d := ⟨.inl ⟨u, h, b⟩⟩
theorem GlobK.t {K : PySem.W.Frag} {x : Str} {ds : List D} {a : Addr} {its : Array Value} {n : Nat} {od : Option Addr} {sl : Array (Option Value)} (h : PySem.W.nsIn K mainGlobals x = some (some (.ref a))) (l : K.lookup a = some ⟨.type "tuple", od, .seq its n, sl⟩)
    (b : atomsEq ds its.toList = true) (hz : its.size ≤ 1000) : GlobK K x (.tuple ds) := ⟨.inr ⟨ds, a, od, its, n, sl, rfl, h, l, b, hz⟩⟩
theorem GlobK.to {K : PySem.W.Frag} {mg : Str → Option Value} {h : Heap} {x : Str} {d : D} (X : K.In h) (G : h.Ns mainGlobals mg) (q : GlobK K x d) : GlobD K mg x d := by
  rcases q.ex with ⟨u, e, b⟩ | ⟨ds, a, od, its, n, sl, rfl, e, l, b, hz⟩
  · exact glob_atom X G e b
  · exact glob_tup X G e l b hz
end L2.DL

namespace L2.DL
open PySem PySem.Spec PyProof.Rows
/-! ## comprehensions that make a table -/
def compT (g : EvG) (tt fk fv : EvF) (vs : List Nat) : List (D × D) → List D → DEnv → Res (List (D × D) × DEnv)
  | acc, [], ρ => .ok (acc, ρ)
  | acc, d :: ds, ρ => bnd (pur (g d ρ)) fun ρ1 => bnd (tt ρ1) fun q => match q.1 with
    | .bool true => bnd (fk q.2) fun k => bnd (fv k.2) fun v => if isKey k.1 = true then compT g tt fk fv vs (dPut acc k.1 v.1) ds (wipeD v.2 vs) else stuck
    | .bool false => compT g tt fk fv vs acc ds (wipeD q.2 vs)
    | _ => stuck
def mDComp (f : EvA) (vs : List Nat) (g : EvG) (tt fk fv : EvF) : EvT := fun ρ => bnd (f ρ) fun p => if p.1.length ≤ lim ∧ noOwn p.2 vs = true then
  bnd (pur (compT g tt fk fv vs [] p.1 (wipeD p.2 vs))) fun z => .ok (z.1, restD z.2 p.2 vs) else stuck
theorem len_putK' (kvs : List (Key × V)) (k : Key) (v : V) : (putK kvs k v).length ≤ kvs.length + 1 := length_putK kvs k v
theorem rd_dc {K : PySem.W.Frag} {J : Jx} {f : EvA} {g : EvG} {tt fk fv : EvF} {vs : List Nat} {σ : St} {H : Hp} {Q : VK} (h : tN K J (mNT (mDComp f vs g tt fk fv)) σ H Q) :
    tDc (tI K J f) (fun v σ H Q => KF K H → tG K J.bot vs g v σ H Q) (tTs K J.bot tt) (tE K J.bot fk) (tE K J.bot fv) vs σ H fun v H' => KF K H' → Q v H' := by
  obtain ⟨G, ρ, R, h⟩ := h
  have e0 : mNT (mDComp f vs g tt fk fv) ρ = bnd (f ρ) fun p => bnd (if p.1.length ≤ lim ∧ noOwn p.2 vs = true then bnd (pur (compT g tt fk fv vs [] p.1 (wipeD p.2 vs))) fun z => .ok (z.1, restD z.2 p.2 vs) else stuck) fun p => .ok (OB.dic p.1, p.2) := by
    unfold mNT mDComp
    rw [bnd_assoc]
  rw [e0] at h
  refine ⟨G, ρ, R, h.bnd fun pr h G' W H1 R1 ex Y p hp => ?_⟩
  obtain ⟨ds, ρ1⟩ := pr
  dsimp only at h
  have hc : ds.length ≤ lim ∧ noOwn ρ1 vs = true := by
    by_cases c : ds.length ≤ lim ∧ noOwn ρ1 vs = true
    · exact c
    · rw [if_neg c] at h; exact h.elim
  rw [if_pos hc, bnd_assoc] at h
  obtain ⟨⟨zs, ρe⟩, h2, hq⟩ := h.pur
  dsimp only at hc h2 R1 Y hq
  replace R1 := R1.bot
  replace hq := hq.ok
  dsimp only at hq
  · cases hk : K.lookup p with
    | some o =>
      -- p is never the place of a new table: nothing can be asked
      have hh : ∀ v d, G'.hd v d → Rp K (MM G' ρ1 σ) (upd H1 p (.dK [])) v d := fun v d z => (R1.held v d z).same (Same.upd hp)
      obtain ⟨Y1, Y2, Y3⟩ := Y _ _ hh
      have nk : ∀ {H2 : Hp}, Same (upd H1 p (.dK [])) H2 → ¬ KF K H2 := fun {H2} s kf => by
        have := kf p o hk
        rw [s p _ upd_same] at this
        cases this
      refine ⟨fun i m H2 => i = 0 ∧ H2 = upd H1 p (.dK []), ⟨0, rfl, rfl⟩, ?_⟩
      rintro i m H2 ⟨rfl, rfl⟩
      by_cases h0 : ds.length = 0
      · rw [h0] at Y2
        exact .inl ⟨Y2, fun kf => absurd kf (nk (Same.refl _))⟩
      · refine .inr ⟨Y1 0 (by omega), fun _ => False, fun _ z => z.elim, fun x H3 y kf => absurd kf (nk (Y3 0 x H3 (by omega) y).1)⟩
    | none =>
      let Gb : Gh := (G'.slots ρ1 σ).add p
      have kf1 : KF K (upd H1 p (.dK [])) := kf_upd R1.kf hk
      have Rb : Rel K J.bot Gb (wipeD ρ1 vs) (wipe σ vs) (upd H1 p (.dK [])) := (R1.slots.fresh hp kf1).wipe vs
      have fxp : ∀ o, ¬ Gb.fx p o := fun o z => by
        have := R1.keep p o z
        rw [hp] at this
        cases this
      have hMp : Gb.M p := .inr rfl
      refine ⟨fun i m H2 => m = ds.length - i ∧ i ≤ ds.length ∧ ∃ ρi hk acc, Rel K J.bot Gb ρi (wipe σ vs) H2 ∧ H2 p = some (.dK hk) ∧ RpKK K (MM Gb ρi (wipe σ vs)) H2 hk acc ∧ hk.length ≤ i ∧
        compT g tt fk fv vs acc (ds.drop i) ρi = .ok (zs, ρe), ⟨_, rfl, Nat.zero_le _, wipeD ρ1 vs, [], [], Rb, upd_same, .nil, Nat.le_refl _, h2⟩, ?_⟩
      rintro i m H2 ⟨rfl, hi, ρi, hk2, acc, Ri, hH, hr, hal, hl⟩
      obtain ⟨Y1, Y2, Y3⟩ := Y _ H2 fun v d z => Ri.held v d (.inl z)
      by_cases hlt : i < ds.length
      · refine .inr ⟨Y1 i hlt, fun H' => ∃ ρi hk acc, Rel K J.bot Gb ρi (wipe σ vs) H' ∧ H' p = some (.dK hk) ∧ RpKK K (MM Gb ρi (wipe σ vs)) H' hk acc ∧ hk.length ≤ i + 1 ∧
          compT g tt fk fv vs acc (ds.drop (i + 1)) ρi = .ok (zs, ρe), fun H' z => ⟨ds.length - (i + 1), by omega, rfl, hlt, z⟩, fun x H3 y kf => ?_⟩
        obtain ⟨sm, d, hd, r⟩ := Y3 i x H3 hlt y
        have r := r Ri.domM
        rw [List.drop_eq_getElem_cons hlt] at hl
        have ed : ds[i] = d := by rw [List.getElem?_eq_getElem hlt] at hd; exact Option.some.inj hd
        rw [ed] at hl
        rw [compT] at hl
        obtain ⟨ρ3, h3, hl⟩ := bnd_inv hl
        replace h3 := pur_inv h3
        obtain ⟨⟨d4, ρ4⟩, h4, hl⟩ := bnd_inv hl
        have sh : ∀ {M : Addr → Prop} {H : Hp} {hk : List (Key × V)} {acc : List (D × D)}, RpKK K M H hk acc → Shp (.dK hk) (.dic acc) := fun z => (RpO.dicK z).shp.1
        have R3 : Rel K J.bot (Gb.lockO p (.dK hk2) (.dic acc)) ρi (wipe σ vs) H3 := (Ri.same kf sm).lockO hMp (sm _ _ hH) (.dicK (hr.move' sm fun _ z => z))
        refine ⟨Gb.lockO p (.dK hk2) (.dic acc), ρi, d, ρ3, R3, r, h3, fun σ4 R4 w4 _ => ⟨w4.trans wipe_wipe, ?_⟩⟩
        cases d4 with
        | bool b =>
          refine ⟨Gb.lockO p (.dK hk2) (.dic acc), ρ3, R4, Out.of h4 ⟨b, rfl, fun H5 R5 => ?_⟩⟩
          have w4' : wipe σ4 vs = wipe σ vs := w4.trans wipe_wipe
          cases b with
          | true =>
            show (if true = true then _ else _)
            rw [if_pos rfl]
            obtain ⟨⟨d6, ρ6⟩, h6, hl⟩ := bnd_inv hl
            obtain ⟨⟨d7, ρ7⟩, h7, hl⟩ := bnd_inv hl
            obtain ⟨hkey, hl⟩ := ite_okR hl
            dsimp only at hkey hl h7
            refine ⟨Gb.lockO p (.dK hk2) (.dic acc), ρ4, R5, Out.of h6 fun y6 H6 R6 r6 => ?_⟩
            refine ⟨Gb.lockO p (.dK hk2) (.dic acc), ρ6, R6, Out.of h7 fun y7 H7 R7 r7 => ?_⟩
            obtain ⟨R8, hH8, hr8⟩ := R7.unlockO (sh hr)
            cases hr8 with
            | dicK hr8 =>
              unfold isKey at hkey
              cases ek : kk d6 with
              | none => rw [ek] at hkey; cases hkey
              | some k =>
                have e2 := kk_inv ek
                dsimp only at r6
                rw [e2] at r6 hl
                obtain rfl := r6.kD_inv
                have kf8 : KF K (upd H7 p (.dK (putK hk2 k y7))) := kf_upd R8.kf hk
                have kp : Keeps (MM Gb ρ7 σ4) H7 (upd H7 p (.dK (putK hk2 k y7))) := fun a u n e => by rw [upd_ne fun z => n (by rw [z]; exact .inl hMp)]; exact e
                have R9 := (R8.updM (o := .dK (putK hk2 k y7)) hMp fxp kf8 hH8 rfl).wipe vs
                rw [w4'] at R9
                have wk : ∀ b, MM Gb (wipeD ρ7 vs) (wipe σ vs) b → MM Gb ρ7 σ4 b := fun b z => by
                  rcases z with z | ⟨j, b', xs', q1, q2⟩
                  · exact .inl z
                  · refine .inr ⟨j, b', xs', wipeD_some q1, ?_⟩
                    · rw [← w4'] at q2
                      exact (wipe_some q2).1
                have hlen := len_putK' hk2 k y7
                refine ⟨hk2, k, rfl, hH8, by have := lim_le hc.1; omega, wipeD ρ7 vs, putK hk2 k y7, dPut acc (kD k) d7, R9, upd_same, ?_, by omega, hl⟩
                exact (RpKK.put (K := K) (M := MM Gb ρ7 σ4) (H := H7) k hr8 r7).mono wk kp
          | false =>
            show (if false = true then _ else _)
            rw [if_neg Bool.false_ne_true]
            obtain ⟨R8, hH8, hr8⟩ := R5.unlockO (sh hr)
            cases hr8 with
            | dicK hr8 =>
              have R9 := R8.wipe vs
              rw [w4'] at R9
              have wk : ∀ b, MM Gb (wipeD ρ4 vs) (wipe σ vs) b → MM Gb ρ4 σ4 b := fun b z => by
                rcases z with z | ⟨j, b', xs', q1, q2⟩
                · exact .inl z
                · refine .inr ⟨j, b', xs', wipeD_some q1, ?_⟩
                  · rw [← w4'] at q2
                    exact (wipe_some q2).1
              exact ⟨wipeD ρ4 vs, hk2, acc, R9, hH8, RpK.weak hr8 wk, by omega, hl⟩
        | _ => cases hl
      · have ei : i = ds.length := by omega
        subst ei
        rw [List.drop_length] at hl
        cases hl
        refine .inl ⟨Y2, fun kf => ?_⟩
        have Rr := R1.rest hc.2 Ri
        have ex' : Ext (G.add p) (G'.add p) := ⟨by unfold Gh.add; dsimp only; rw [ex.m], ex.b, ex.fx, ex.hd⟩
        have Rg := (Rr.ext ex').unbot
        have wk : ∀ b, MM (G.add p) (restD ρe ρ1 vs) σ b → MM Gb ρe (wipe σ vs) b := fun b z => by
          have hl : ρe.length = ρ1.length := by rw [Ri.len, wipe_length, R1.len]
          rcases z with z | ⟨j, b', xs', q1, q2⟩
          · refine .inl ?_
            rcases z with z | z
            · exact .inl (by show G'.M b; rw [ex.m]; exact z)
            · exact .inr z
          · by_cases hj : j ∈ vs
            · rw [rest_in hl hj] at q1
              have := List.all_eq_true.mp hc.2 j hj
              rw [q1] at this
              cases this
            · rw [rest_out hj] at q1
              exact .inr ⟨j, b', xs', q1, by rw [wipe_out hj]; exact q2⟩
        refine hq p _ _ Rg hH (.dicK (RpK.weak hr wk)) (fun z => ?_) fun o z => fxp o (ex.fx p o z)
        rcases z with z | ⟨j, b', xs', q1, q2⟩
        · have z' : G'.M p := by rw [ex.m]; exact z
          exact R1.dom p z' hp
        · obtain ⟨a, us, g1, g2, g3, g4, _⟩ := Rg.own j b' xs' q1
          rw [q2] at g1
          cases g1
          exact g4 (.inr rfl)
section
variable {X : Cx} {J : Jx} {kx vx tg iter : Expr} {ifs : List Expr} {scope : Scope} {own : List (Str × Nat)} {pos : Pos} {f : EvA} {g : EvG} {tt fk fv : EvF}
theorem dn_dc (hc : X.calm = true) (hN : X.N.Nodup) (hi : PI X tg iter (tI X.K J f)) (ok : BlkOk X.N X.env.scope scope own)
    (hg : ∀ (s : Shared) (H : Hp) (C : Addr) (cl : List (Str × Addr)) (fp : List Addr), PG (X.blk s H scope (compEnvC scope cl C X.env) fp) tg (tG X.K J.bot (own.map (·.2)) g))
    (ht : ∀ (s : Shared) (H : Hp) (C : Addr) (cl : List (Str × Addr)) (fp : List Addr), PTs (X.blk s H scope (compEnvC scope cl C X.env) fp) ifs (tTs X.K J.bot tt))
    (hk : ∀ (s : Shared) (H : Hp) (C : Addr) (cl : List (Str × Addr)) (fp : List Addr), PE (X.blk s H scope (compEnvC scope cl C X.env) fp) kx (tE X.K J.bot fk))
    (he : ∀ (s : Shared) (H : Hp) (C : Addr) (cl : List (Str × Addr)) (fp : List Addr), PE (X.blk s H scope (compEnvC scope cl C X.env) fp) vx (tE X.K J.bot fv)) (hs : ∀ x, foldedSetIterable iter X.env x = pure x := by intro _; rfl) :
    PE X (.DictComp kx vx [⟨tg, iter, ifs, 0⟩] scope pos) (tN X.K J (mNT (mDComp f (own.map (·.2)) g tt fk fv))) :=
  PE.by (pe_dc hc hN hi ok (fun s H C cl fp => PG.pre (hg s H C cl fp)) ht hk he hs) fun _ _ _ h => rd_dc h
end

/-! ## what such a comprehension computes -/
def compTQ (test kx vx : D → Res D) : List (D × D) → List D → Res (List (D × D))
  | acc, [] => .ok acc
  | acc, d :: ds => bnd (pur (test d)) fun b => qsel b (bnd (pur (kx d)) fun k => bnd (pur (vx d)) fun v => if isKey k = true then compTQ test kx vx (dPut acc k v) ds else stuck) (compTQ test kx vx acc ds)
@[simp] def qdcomp (test kx vx : D → Res D) (it : Res (List D)) : Res (List (D × D)) := bnd it fun ds => if ds.length ≤ lim then compTQ test kx vx [] ds else stuck
section
variable {ρ : DEnv}
theorem eDComp {N : Nat} {fi : EvA} {gt : EvG} {tt fk fv : EvF} {t : Tg} {is vs : List Nat} {qi : Res (List D)} {test kx vx : D → Res D} (hi : Ev fi ρ qi) (hN : ρ.length = N) (hg : TgOk N gt t is) (hs : subL is vs = true) (hno : noOwn ρ vs = true)
    (ht : ∀ d l, unp t d = .ok l → Ev tt (setL is l (wipeD ρ vs)) (test d)) (hu : ∀ d, (∀ l, unp t d ≠ .ok l) → test d = stuck) (hk : ∀ d l, unp t d = .ok l → Ev fk (setL is l (wipeD ρ vs)) (kx d)) (he : ∀ d l, unp t d = .ok l → Ev fv (setL is l (wipeD ρ vs)) (vx d)) : Ev (mDComp fi vs gt tt fk fv) ρ (qdcomp test kx vx qi) := by
  refine EvR.bnd hi fun ds => ?_
  dsimp only
  by_cases hl : ds.length ≤ lim
  · rw [if_pos ⟨hl, hno⟩, if_pos hl]
    have key : ∀ (ds : List D) (acc : List (D × D)), (∀ zs, compTQ test kx vx acc ds = .ok zs → compT gt tt fk fv vs acc ds (wipeD ρ vs) = .ok (zs, wipeD ρ vs)) ∧ ∀ c fs r, compTQ test kx vx acc ds ≠ .error (.exc c fs r) := by
      intro ds
      induction ds with
      | nil => exact fun acc => ⟨fun zs h => by cases h; rfl, fun c fs r h => by cases h⟩
      | cons d ds ih =>
        intro acc
        cases hup : unp t d with
        | error er =>
          have hst := hu d (fun l z => by rw [hup] at z; cases z)
          refine ⟨fun zs h => ?_, fun c fs r h => ?_⟩
          all_goals
            rw [compTQ, hst] at h
            cases h
        | ok l =>
          have h1 := ht d l hup
          have h2 := hk d l hup
          have h3 := he d l hup
          have hgd := (hg.run d (wipeD ρ vs) l (by rw [wipeD_len]; exact hN) hup).2
          have hw := wipe_setL (ρ := ρ) (l := l) (subL_ok hs)
          rw [compTQ]
          cases hb : test d with
          | error er => exact ⟨fun zs h => (by rw [pur_err] at h; cases h), fun c fs r h => (by rw [pur_err] at h; cases h)⟩
          | ok bd =>
            have e1 : tt (setL is l (wipeD ρ vs)) = .ok (bd, setL is l (wipeD ρ vs)) := by rw [hb] at h1; exact h1
            rw [pur_ok, bnd_ok]
            cases bd with
            | bool b =>
              cases b with
              | true =>
                show (∀ zs, bnd (pur (kx d)) _ = _ → _) ∧ ∀ c fs r, bnd (pur (kx d)) _ ≠ _
                cases hx : kx d with
                | error er => exact ⟨fun zs h => (by rw [pur_err] at h; cases h), fun c fs r h => (by rw [pur_err] at h; cases h)⟩
                | ok x =>
                  have e2 : fk (setL is l (wipeD ρ vs)) = .ok (x, setL is l (wipeD ρ vs)) := by rw [hx] at h2; exact h2
                  rw [pur_ok, bnd_ok]
                  cases hy : vx d with
                  | error er => exact ⟨fun zs h => (by rw [pur_err] at h; cases h), fun c fs r h => (by rw [pur_err] at h; cases h)⟩
                  | ok y =>
                    have e3 : fv (setL is l (wipeD ρ vs)) = .ok (y, setL is l (wipeD ρ vs)) := by rw [hy] at h3; exact h3
                    rw [pur_ok, bnd_ok]
                    by_cases hkey : isKey x = true
                    · rw [if_pos hkey]
                      refine ⟨fun zs h => ?_, (ih (dPut acc x y)).2⟩
                      rw [compT, hgd, pur_ok, bnd_ok, e1, bnd_ok]
                      dsimp only
                      rw [e2, bnd_ok]
                      dsimp only
                      rw [e3, bnd_ok]
                      dsimp only
                      rw [if_pos hkey, hw]
                      exact (ih (dPut acc x y)).1 zs h
                    · rw [if_neg hkey]
                      exact ⟨fun zs h => (by cases h), fun c fs r h => (by cases h)⟩
              | false =>
                refine ⟨fun zs h => ?_, (ih acc).2⟩
                rw [compT, hgd, pur_ok, bnd_ok, e1, bnd_ok]
                dsimp only
                rw [hw]
                exact (ih acc).1 zs h
            | _ => exact ⟨fun zs h => (by cases h), fun c fs r h => (by cases h)⟩
    obtain ⟨k1, k2⟩ := key ds []
    cases hq : compTQ test kx vx [] ds with
    | ok zs =>
      rw [k1 zs hq, pur_ok, bnd_ok, restD_wipe]
      exact EvR.ok
    | error er =>
      cases er with
      | stuck => exact True.intro
      | exc c fs r => exact absurd hq (k2 c fs r)
  · rw [if_neg fun z => hl z.1, if_neg hl]
    exact True.intro
theorem eDCompT {N : Nat} {fi : EvA} {gt : EvG} {tt fk fv : EvF} {t : Tg} {is vs : List Nat} {qi : Res (List D)} {kt kk' ke : List D → Res D} (hi : Ev fi ρ qi) (hg : TgOk N gt t is) (ht : ∀ l, Ev tt (setL is l (wipeD ρ vs)) (kt l)) (hk : ∀ l, Ev fk (setL is l (wipeD ρ vs)) (kk' l)) (he : ∀ l, Ev fv (setL is l (wipeD ρ vs)) (ke l))
    (hN : ρ.length = N := by rfl) (hs : subL is vs = true := by rfl) (hno : noOwn ρ vs = true := by rfl) : Ev (mDComp fi vs gt tt fk fv) ρ (qdcomp (fun d => bnd (pur (unp t d)) kt) (fun d => bnd (pur (unp t d)) kk') (fun d => bnd (pur (unp t d)) ke) qi) := by
  refine eDComp hi hN hg hs hno (fun d l h => by rw [h]; exact ht l) (fun d h => ?_) (fun d l h => by rw [h]; exact hk l) fun d l h => by rw [h]; exact he l
  cases hu : unp t d with
  | error e => rfl
  | ok l => exact absurd hu (h l)
theorem eDComp1 {N j : Nat} {fi : EvA} {tt fk fv : EvF} {vs : List Nat} {qi : Res (List D)} {kt kk' ke : D → Res D} (hi : Ev fi ρ qi) (ht : ∀ d, Ev tt ((wipeD ρ vs).set j (some (Sl.dat d))) (kt d)) (hk : ∀ d, Ev fk ((wipeD ρ vs).set j (some (Sl.dat d))) (kk' d)) (he : ∀ d, Ev fv ((wipeD ρ vs).set j (some (Sl.dat d))) (ke d))
    (hN : ρ.length = N := by rfl) (hj : Nat.blt j N = true := by rfl) (hs : subL [j] vs = true := by rfl) (hno : noOwn ρ vs = true := by rfl) : Ev (mDComp fi vs (gN j) tt fk fv) ρ (qdcomp kt kk' ke qi) := by
  refine eDComp hi hN (tg_n (N := N) hj) hs hno (fun d l h => by cases h; exact ht d) (fun d h => ?_) (fun d l h => by cases h; exact hk d) fun d l h => by cases h; exact he d
  exact absurd rfl (h [d])
end

/-! ## stars, expressions alone -/
@[simp] def qstar (a : Res D) (l : Res (List D)) : Res (List D) := bnd a fun x => bnd (pur (seqD x)) fun z => bnd l fun xs => .ok (z.2 ++ xs)
@[simp] def qstarO (xs : List D) (l : Res (List D)) : Res (List D) := bnd l fun ys => .ok (xs ++ ys)
section
variable {β : Type} {ρ : DEnv} {i : Nat} {b : Bool} {xs : List D} {f : EvF} {fs : EvA} {q : Res D} {ql : Res (List D)} {rest : EvS} {I : β → Ctl → DEnv → Prop} {k : Res β}
theorem eStar (a : Ev f ρ q) (c : Ev fs ρ ql) : Ev (mStar f fs) ρ (qstar q ql) := EvR.bnd a fun _ => EvR.pur fun _ => EvR.bnd c fun _ => EvR.ok
theorem eStarO (h : ρ[i]? = some (some (Sl.ob b (.lst xs)))) (c : Ev fs ρ ql) : Ev (mStarO i fs) ρ (qstarO xs ql) := by
  show EvR (mStarO i fs ρ) ρ _
  unfold mStarO
  rw [ownAt_of h, pur_ok, bnd_ok]
  exact EvR.bnd c fun _ => EvR.ok
theorem sExpr (h : Ev f ρ q) (hk : Sim (rest ρ) k I) : Sim (mSeq (mExpr f) rest ρ) (bnd q fun _ => k) I := by
  have e : mSeq (mExpr f) rest ρ = bnd (f ρ) fun p => rest p.2 := by
    show bnd (bnd (f ρ) _) _ = _
    rw [bnd_assoc]
    rfl
  rw [e]
  exact Sim.bnd h fun _ => hk
end
end L2.DL

namespace L2.DL
open PySem PySem.Spec PyProof.Rows
/-! ## set(a list of whole numbers) -/
/-- an empty set's object; an iterator over the list at l -/
abbrev seO (w : World) : Obj := { cls := .type "set", dict := none, data := .set #[] 0 (.fresh 0 0 (!w.params.followText "set-order")) }
abbrev liO (l : Addr) : Obj := { cls := .type "list_iterator", data := .fields #[.ref l, .int 0 0] }
section
variable {P : Program} {w : World} {A : Around} {E : Value → Shared → Prop} {s : Shared} {l : Addr} {items : Array Value} {ns : List Int}
/-- what is true behind it: a set of the numbers at the next address, all else as it was -/
def SetMade (w : World) (s : Shared) (ns : List Int) (s' : Shared) : Prop := ∃ (h' : Heap) (tk c : Nat), s' = { s with heap := h', toks := tk } ∧ SetR w h' s.heap.objs.size (fun j => decide (j ∈ ns)) c ∧ c ≤ ns.length ∧ ∀ b o, s.heap.get? b = some o → h'.get? b = some o
theorem num_at (hl : items.size = ns.length) (hi : IntsAre items.toList ns) (i : Nat) (v : Value) (hv : items[i]? = some v) : ∃ k t, ns[i]? = some k ∧ v = .int k t := by
  have lt : i < ns.length := hl ▸ (Array.getElem?_eq_some_iff.mp hv).1
  have e0 : ns[i]? = some ns[i] := List.getElem?_eq_getElem lt
  obtain ⟨t, e⟩ := hi.int_at i v ((Array.getElem?_toList ..).trans hv)
  exact ⟨ns[i], t, e0, by rw [e, List.getD_eq_getElem?_getD, e0]; rfl⟩
/-- the items are taken one by one -/
theorem set_filled {A : Around} (hh : A.in1.handled = none) (hl : (s.heap.push (seO w)).IsList l items) (hlt : l < s.heap.objs.size) (hz : items.size = ns.length) (hi : IntsAre items.toList ns) (hb : ns.length + 1 < scanBound) {R : Result → Shared → Prop} (h : ∀ s', SetMade w s ns s' → R (.ok (.ret .none)) s') :
    codeAny (model P w) A (.builtin "set.update.loop" ⟨[.ref s.heap.objs.size, .ref (s.heap.push (seO w)).objs.size], []⟩) R { s with heap := (s.heap.push (seO w)).push (liO l) } := by
  have sz : (s.heap.push (seO w)).objs.size = s.heap.objs.size + 1 := Heap.size_push ..
  have n1 : l ≠ (s.heap.push (seO w)).objs.size := by rw [sz]; exact Nat.ne_of_lt (Nat.lt_succ_of_lt hlt)
  have n2 : ∀ b, b ∈ [(s.heap.push (seO w)).objs.size, l] → s.heap.objs.size ≠ b := fun b hb => by
    rcases List.mem_cons.mp hb with e | hb
    · rw [e, sz]; exact Nat.ne_of_lt (Nat.lt_succ_self _)
    · rw [List.mem_singleton.mp hb]; exact Nat.ne_of_gt hlt
  have top : ((s.heap.push (seO w)).push (liO l)).get? s.heap.objs.size = some (seO w) := Heap.get?_push_of_some _ (Heap.get?_push_size _ rfl)
  refine set_update_ints ((Walks.list hh _ l n1 items).toS) s.heap.objs.size (fun m => n2 _ m rfl) ns hz hb (fun i v e => num_at hz hi i v e) _ 0 _ rfl (Nat.zero_le _) ⟨⟨_, Heap.get?_push_size _ rfl, rfl, rfl⟩, hl.push _⟩ ⟨0, Nat.le_refl 0, setR_new_at top⟩ fun s2 c hm hc hS => h s2 ⟨s2.heap, s2.toks, c, ?_, hS, by rw [← hz]; exact hc, fun b o e => ?_⟩
  · have e1 := hm.gens
    have e2 := hm.drawn
    have e3 := hm.os
    cases s2
    dsimp only at e1 e2 e3
    subst e1 e2 e3
    rfl
  · have lt := Heap.lt_size e
    refine hm.heap b o (fun m => ?_) (Heap.get?_push_of_some _ (Heap.get?_push_of_some _ e))
    rcases List.mem_cons.mp m with z | m
    · exact Nat.lt_irrefl _ (z ▸ lt)
    · rw [List.mem_singleton.mp m, sz] at lt
      exact Nat.lt_irrefl _ (Nat.lt_of_succ_lt lt)
theorem call_set_led1 (P : Program) {w : World} {A : Around} (E : Value → Shared → Prop) {s : Shared} (l : Addr) : codeAny (model P w) A (.call (.builtin "set.__new__") ⟨[.type "set", .ref l], []⟩) (wants (fun obj s₁ => obj = .ref s.heap.objs.size ∧ s₁ = { s with heap := s.heap.push (seO w) }) E) s := code_set_led1 (.ref l) ⟨rfl, rfl⟩
theorem call_set_list {Q : Value → Shared → Prop} (hh : A.handled = none) (hl : s.heap.IsList l items) (hi : IntsAre items.toList ns) (hb : ns.length + 1 < scanBound) (h : ∀ s', SetMade w s ns s' → Q (.ref s.heap.objs.size) s') : wpAny (model P w) A (call (.type "set") [.ref l]) Q E s := by
  have hz : items.size = ns.length := (Array.length_toList (xs := items)).symm.trans hi.length
  obtain ⟨_, _, m0⟩ := F.called_set.mro
  have m1 := F.called_set.made
  have m2 := F.called_set.sub
  have m3 := F.called_set.notType
  have m4 := F.called_set.canCreate
  have m5 := F.typeCall_set_1 (.ref l)
  refine wpAny_call (codeAny_of_tree ?_); show wpAny _ _ (callAny (.type "set") _) _ _ _
  refine wpAny_pure ⟨Code.quiet_builtin _ (by decide +kernel), codeAny_builtin F.entry_type_call ?_⟩; rw [Around.under_plain (weight_type_call_type "set" [.ref l] []) rfl]
  repeat (any_goals (first | assumption | wp_step))
  refine codeAny_mono (call_set_led1 P E l) fun r s₁ hr => ?_
  cases r with
  | error e => exact hr
  | ok fl =>
    cases fl with
    | ret obj =>
      obtain ⟨rfl, rfl⟩ := hr
      have hS : (s.heap.push (seO w)).get? s.heap.objs.size = some (seO w) := Heap.get?_push_size _ rfl
      have hT : Shared.TypeIs { s with heap := s.heap.push (seO w) } (.ref s.heap.objs.size) "set" := ⟨_, hS, rfl⟩
      have k1 := F.called_set.init.lookup
      have k2 := F.called_set.init.bind (.ref s.heap.objs.size)
      repeat (any_goals (first | assumption | wp_step))
      refine codeAny_mono (codeAny_call_builtin (R := wants (fun r s2 => r = .none ∧ SetMade w s ns s2) E) F.called_set.init.plain F.entry_set_init (check_set_init_1 hT ?_)) fun r2 s2 q2 => ?_
      · have hl1 : (s.heap.push (seO w)).IsList l items := hl.push _
        have hlt : l < s.heap.objs.size := by obtain ⟨_, e, _⟩ := hl; exact Heap.lt_size e
        have t1 : Shared.TypeIs { s with heap := s.heap.push (seO w) } (.ref l) "list" := hl1.typeIs
        have u1 := F.sub_list_set
        have u2 := F.sub_list_frozenset
        have u3 : (Value.type "list" == Value.type "dict") = false := by decide
        obtain ⟨ol, g1, g2, g3, g4⟩ := hl1
        unfold Builtin.«set.__init__» noKeywords Builtin.Frozenset.updateFrom
        generalize hPI : pyIter = PI
        wp_walk
        subst hPI
        refine wpAny_pyIter_list (hl.push _) (wpAny_bind (wpAny_runValue ?_))
        refine set_filled (by simp [hh]) (hl.push _) hlt hz hi hb fun s' hm => ?_
        show wpAny _ _ _ _ _ _
        exact wpAny_pure (wpAny_pure ⟨rfl, hm⟩)
      · cases r2 with
        | error e => exact q2
        | ok f2 =>
          cases f2 with
          | ret r =>
            obtain ⟨rfl, q3⟩ := q2
            repeat (any_goals (first | assumption | wp_step))
            exact h _ q3
          | _ => exact q2.elim
    | _ => exact hr.elim
end

/-! ## the numbers of a list, ascending, each once -/
def insU (x : Int) : List Int → List Int
  | [] => [x]
  | y :: l => if x < y then x :: y :: l else if x = y then y :: l else y :: insU x l
def sortU (ns : List Int) : List Int := ns.foldr insU []
theorem mem_insU {x z : Int} : ∀ {l : List Int}, z ∈ insU x l ↔ z = x ∨ z ∈ l
  | [] => by simp [insU]
  | y :: l => by
    have ih := mem_insU (x := x) (z := z) (l := l)
    unfold insU
    by_cases h : x < y
    · rw [if_pos h]; simp
    · rw [if_neg h]
      by_cases h2 : x = y
      · rw [if_pos h2, h2]; simp
      · rw [if_neg h2, List.mem_cons, ih, List.mem_cons]
        constructor
        · rintro (e | e | e)
          · exact .inr (.inl e)
          · exact .inl e
          · exact .inr (.inr e)
        · rintro (e | e | e)
          · exact .inr (.inl e)
          · exact .inl e
          · exact .inr (.inr e)
theorem insU_up {x : Int} : ∀ {l : List Int}, l.Pairwise (· < ·) → (insU x l).Pairwise (· < ·)
  | [], _ => by simp [insU]
  | y :: l, h => by
    obtain ⟨h1, h2⟩ := List.pairwise_cons.mp h
    unfold insU
    by_cases c : x < y
    · rw [if_pos c]
      refine List.pairwise_cons.mpr ⟨fun z hz => ?_, h⟩
      rcases List.mem_cons.mp hz with e | hz
      · rw [e]; exact c
      · have := h1 z hz; omega
    · rw [if_neg c]
      by_cases c2 : x = y
      · rw [if_pos c2]; exact h
      · rw [if_neg c2]
        refine List.pairwise_cons.mpr ⟨fun z hz => ?_, insU_up h2⟩
        rcases mem_insU.mp hz with e | hz
        · omega
        · exact h1 z hz
theorem mem_sortU {z : Int} : ∀ {ns : List Int}, z ∈ sortU ns ↔ z ∈ ns
  | [] => by simp [sortU]
  | n :: ns => by
    show z ∈ insU n (sortU ns) ↔ _
    rw [mem_insU, mem_sortU, List.mem_cons]
theorem sortU_up : ∀ ns : List Int, (sortU ns).Pairwise (· < ·)
  | [] => .nil
  | n :: ns => insU_up (sortU_up ns)
theorem up_eq : ∀ {xs ys : List Int}, xs.Pairwise (· < ·) → ys.Pairwise (· < ·) → (∀ z, z ∈ xs ↔ z ∈ ys) → xs = ys
  | [], [], _, _, _ => rfl
  | [], y :: ys, _, _, h => by have := (h y).mpr List.mem_cons_self; cases this
  | x :: xs, [], _, _, h => by have := (h x).mp List.mem_cons_self; cases this
  | x :: xs, y :: ys, hx, hy, h => by
    obtain ⟨x1, x2⟩ := List.pairwise_cons.mp hx
    obtain ⟨y1, y2⟩ := List.pairwise_cons.mp hy
    have e : x = y := by
      have a := (h x).mp List.mem_cons_self
      have b := (h y).mpr List.mem_cons_self
      rcases List.mem_cons.mp a with a | a
      · exact a
      · rcases List.mem_cons.mp b with b | b
        · exact b.symm
        · have := x1 y b
          have := y1 x a
          omega
    subst e
    refine congrArg _ (up_eq x2 y2 fun z => ?_)
    have q := h z
    rw [List.mem_cons, List.mem_cons] at q
    constructor
    · intro m
      rcases q.mp (.inr m) with e | m2
      · have := x1 z m; omega
      · exact m2
    · intro m
      rcases q.mpr (.inr m) with e | m2
      · have := y1 z m; omega
      · exact m2
theorem len_insU {x : Int} : ∀ {l : List Int}, (insU x l).length ≤ l.length + 1
  | [] => by simp [insU]
  | y :: l => by
    have := len_insU (x := x) (l := l)
    unfold insU
    split
    · simp
    · split
      · simp
      · simp only [List.length_cons]; omega
theorem len_sortU : ∀ ns : List Int, (sortU ns).length ≤ ns.length
  | [] => Nat.le_refl _
  | n :: ns => by
    have a := len_insU (x := n) (l := sortU ns)
    have b := len_sortU ns
    show (insU n (sortU ns)).length ≤ _
    simp only [List.length_cons]
    omega
/-! ## set(..) that is read at once -/
abbrev EvI := DEnv → Res (List Int × DEnv)
def tSeI (w : World) (K : PySem.W.Frag) (J : Jx) (f : EvI) : TE := fun σ H Q => ∃ G ρ, Rel K J G ρ σ H ∧ Out (wE K J G σ) (f ρ) fun p =>
  ∀ a (S : Int → Bool) (n : Nat) H', Rel K J G p.2 σ H' → H' a = some (SetO w a S n) → (∀ k, S k = decide (k ∈ p.1)) → n ≤ p.1.length → Q (.ref a) H'
def numsS : Bool × List D → Res (List Int) := fun p => match intsOf p.2 with | some ns => if ns.length < 1000 then .ok ns else stuck | none => stuck
def mSetI (fv : EvV) : EvI := fun ρ => bnd (fv ρ) fun p => bnd (pur (numsS p.1)) fun z => .ok (z, p.2)
section
variable {X : Cx} {J : Jx} {e : Expr} {fv : EvV} {fs : EvI} {p p2 pos : Pos}
def rSetL (K : PySem.W.Frag) (w : World) : List V → Hp → VK → Prop := fun vs H Q => ∃ (t : Bool) (a : Addr) (ns : List Int), vs = [.ref a] ∧ IsSq K H t a (ns.map V.int) ∧ ns.length < 1000 ∧
  ∀ q n, H q = none → n ≤ ns.length → Q (.ref q) (upd H q (SetO w q (fun j => decide (j ∈ ns)) n))
theorem cr_setL (hc : X.calm = true) : CallR X (.type "set") (rSetL X.K X.w) := by
  intro pins s σ H xs us Q I r ⟨t, a, ns, ex, hs, hl, q⟩
  subst ex
  rw [Vals.ref1 r]
  have hsc : ns.length + 1 < scanBound := Nat.lt_of_lt_of_le (show ns.length + 1 < 1001 by omega) (by decide)
  cases t with
  | false =>
    obtain ⟨its, rv, hL, _⟩ := I.list (show SqL X.K H a (ns.map V.int) from hs)
    refine call_set_list (I.ok.hd hc) hL.isList (by simpa using rv.ints) hsc fun s' ⟨h', tk, c, e, R, hc', kp⟩ => ?_
    subst e
    exact ⟨.ref s.heap.objs.size, upd H s.heap.objs.size (SetO X.w s.heap.objs.size (fun j => decide (j ∈ ns)) c), I.laid (t' := tk) kp (Nat.le_refl _) (setO_new R), rfl, q _ c (I.hok.fresh (Nat.le_refl _)) hc'⟩
  | true =>
    obtain ⟨its, rv, hL, _⟩ := I.tuple (show SqT X.K H a (ns.map V.int) from hs)
    refine call_set_tupI ns (I.ok.hd hc) hL (by simpa using rv.ints) hsc fun h' tk c R hc' kp => ?_
    exact ⟨.ref s.heap.objs.size, upd H s.heap.objs.size (SetO X.w s.heap.objs.size (fun j => decide (j ∈ ns)) c), I.laid (t' := tk) kp (Nat.le_refl _) (setO_new R), rfl, q _ c (I.hok.fresh (Nat.le_refl _)) hc'⟩
theorem dst_set (hc : X.calm = true) (hm : X.mg "set" = none) (hv : PE X e (tW X.K J fv)) (hg : Gl X "set" := by rfl) (hs : starEach (e :: []) X.env = (false, eval e X.env) :: starEach [] X.env := by rfl) (hpl : (backTo pos (starEach [] X.env)).any (·.1) = false := by rfl) :
    PE X (.Call (.Name "set" p) [e] [] pos) (tSeI X.w X.K J (mSetI fv)) := by
  refine PE.by (pe_callTy (cr_setL hc) hg hm (by decide +kernel) (pa_cons hv pa_nil hs) (by decide) (by decide) hs hpl) ?_
  rintro σ H Q ⟨G, ρ, R, h⟩
  refine ⟨G, ρ, R, h.bnd fun p h a vs H' R' hsq hr hn => ?_⟩
  obtain ⟨z, h2, h⟩ := h.pur
  unfold numsS at h2
  cases e : intsOf p.1.2 with
  | none => rw [e] at h2; cases h2
  | some ns =>
    rw [e] at h2
    obtain ⟨hl, h2⟩ := ite_okR h2
    cases h2
    have e' := intsOf_eq e
    rw [e'] at hr
    have ev := rpA_ints _ hr
    rw [ev] at hsq
    refine ⟨p.1.1, a, _, rfl, hsq, hl, fun q n hq hn kf => ?_⟩
    exact h.ok q _ n _ (R'.same kf (Same.upd hq)) upd_same (fun k => rfl) hn
/-- sorted(set(..)) -/
def mSortU (fs : EvI) : EvA := fun ρ => bnd (fs ρ) fun p => if p.1.length < 64 then .ok ((sortU p.1).map .int, p.2) else stuck
theorem dl_sortU (hc : X.calm = true) (hm : X.mg "sorted" = none) (hv : PE X e (tSeI X.w X.K J fs)) (hg : Gl X "sorted" := by rfl) (hs : starEach (e :: []) X.env = (false, eval e X.env) :: starEach [] X.env := by rfl) (hpl : (backTo pos (starEach [] X.env)).any (·.1) = false := by rfl) :
    PE X (.Call (.Name "sorted" p) [e] [] pos) (tL X.K J (mSortU fs)) := by
  refine PE.by (pe_callB (cr_sortedSet hc) hg hm (by decide +kernel) (pa_cons hv pa_nil hs) (by decide) (by decide) hs hpl) ?_
  rintro σ H Q ⟨G, ρ, R, h⟩
  refine ⟨G, ρ, R, h.bnd fun p h a S n H' R' ha hS hn => ?_⟩
  obtain ⟨hl, h⟩ := h.ite
  refine ⟨a, S, n, rfl, ha, by omega, fun ns q up mem _ hq kf => ?_⟩
  have e : ns = sortU p.1 := up_eq up (sortU_up _) fun z => by rw [mem, hS, decide_eq_true_eq, mem_sortU]
  subst e
  exact h.ok q _ _ (R'.fresh hq kf) upd_same (rpA_intsV _) (R'.nown hq) fun o z => by
    have := R'.keep q o z
    rw [hq] at this
    cases this
end
/-! ### without slots -/
@[simp] def qseti (v : Res (Bool × List D)) : Res (List Int) := bnd v fun x => pur (numsS x)
@[simp] def qsortU (v : Res (List Int)) : Res (List D) := bnd v fun ns => if ns.length < 64 then .ok ((sortU ns).map .int) else stuck
section
variable {ρ : DEnv} {fv : EvV} {fs : EvI} {q : Res (Bool × List D)} {qi : Res (List Int)}
theorem eSetI (a : Ev fv ρ q) : Ev (mSetI fv) ρ (qseti q) := EvR.bnd a fun _ => EvR.purk
theorem eSortU (a : Ev fs ρ qi) : Ev (mSortU fs) ρ (qsortU qi) := EvR.bnd a fun ns => by
  dsimp only
  split
  · exact EvR.ok
  · exact EvR.no
end
end L2.DL

namespace L2.DL
open PySem PySem.Spec PyProof.Rows
/-! ## x[::-1] of a tuple -/
section
variable {prog : Program} {w : World} {A : Around} {E : Value → Shared → Prop} {s : Shared}
theorem back_parts {sl : Addr} {vs : Value} {n : Nat} {Q : Int × Int × Nat → Shared → Prop} (hs : s.heap.IsSliceOf sl .none .none vs) (ps : IsPart vs (some (-1))) (h : Q ((n : Int) - 1, -1, n) s) : wpAny (model prog w) A (Builtin.Slice.sliceApplied (.ref sl) (pure (n : Int))) Q E s := by
  obtain ⟨os, e1, _, e2⟩ := id hs
  unfold Builtin.Slice.sliceApplied Builtin.Slice.sliceFields
  refine wpAny_bind (wpAny_bind (wpAny_field e1 e2 (x := .none) rfl (wpAny_bind (wpAny_field e1 e2 (x := .none) rfl (wpAny_bind (wpAny_field e1 e2 (x := vs) rfl (wpAny_pure ?_)))))))
  refine wpAny_bind (HT.slicePart_ ps ?_)
  show wpAny _ _ (if ((-1 : Int) == 0) = true then _ else _) _ _ s
  rw [if_neg (by decide)]
  refine wpAny_bind (HT.slicePart_ .none (wpAny_bind (HT.slicePart_ .none (wpAny_bind (wpAny_pure ?_)))))
  have a1 : Builtin.Slice.sliceAdjust none none (-1) (n : Int) = ((n : Int) - 1, -1) := by
    simp [Builtin.Slice.sliceAdjust]
  have a2 : Builtin.Slice.slicePlaces ((n : Int) - 1) (-1) (-1) = n := by
    unfold Builtin.Slice.slicePlaces
    rw [if_neg (by decide)]
    by_cases h0 : n = 0
    · subst h0; rfl
    · rw [if_pos (by omega)]
      have e : ((n : Int) - 1 - -1 - 1) / (- -1) + 1 = (n : Int) := by
        have e3 : (- -1 : Int) = 1 := by decide
        rw [e3, Int.ediv_one]
        omega
      rw [e]
      exact Int.toNat_natCast n
  show wpAny _ _ (match Builtin.Slice.sliceAdjust none none (-1) (n : Int) with | (lo, hi) => pure (lo, (-1 : Int), Builtin.Slice.slicePlaces lo hi (-1))) _ _ s
  rw [a1]
  show wpAny _ _ (pure ((n : Int) - 1, (-1 : Int), Builtin.Slice.slicePlaces ((n : Int) - 1) (-1) (-1))) _ _ s
  rw [a2]
  exact wpAny_pure h
theorem back_picked (xs : Array Value) : ((List.range xs.size).filterMap fun (m : Nat) => xs[((xs.size : Int) - 1 + (m : Int) * (-1)).toNat]?) = xs.toList.reverse := by
  have e : (List.range xs.size).filterMap (fun (m : Nat) => xs[((xs.size : Int) - 1 + (m : Int) * (-1)).toNat]?) = (List.range xs.size).filterMap fun m => xs[xs.size - 1 - m]? := by
    congr 1
    funext m
    have : ((xs.size : Int) - 1 + (m : Int) * (-1)).toNat = xs.size - 1 - m := by omega
    rw [this]
  rw [e, ← PySem.W.krv_all xs, ← List.filterMap_reverse, ← PySem.W.krv_range, List.filterMap_map]
  rfl
/-- t[::-1] -/
theorem tup_back {t sl : Addr} {items : Array Value} {vs : Value} {Q : Value → Shared → Prop} (ht : IsTup s.heap t items) (hs : s.heap.IsSliceOf sl .none .none vs) (ps : IsPart vs (some (-1)))
    (h : Q (.ref s.heap.objs.size) { s with heap := s.heap.push { cls := .type "tuple", data := .seq items.toList.reverse.toArray } }) (hz : items.size ≤ sizeLine) : wpAny (model prog w) A (getItem (.ref t) (.ref sl)) Q E s := by
  have hT : s.TypeIs (.ref sl) "slice" := by obtain ⟨os, a, b, _⟩ := hs; exact ⟨os, a, b⟩
  have fits : sizeOk (.seq items.toList.reverse.toArray) := by
    show items.toList.reverse.toArray.size ≤ sizeLine
    rw [List.size_toArray, List.length_reverse, Array.length_toList]
    exact hz
  unfold getItem
  try with_reducible refine wpAny_holding ?_
  first | refine wpAny_bind (wpAny_pure ?_) | skip
  refine wpAny_bind (wpAny_sequenceKey ht.typeIs (by decide) (?_))
  refine wpAny_bind (wpAny_callSpecial?_slot (name := Str.ofString "__getitem__") ht.typeIs slot_tuple_getitem (wpAny_call_entry slot_tuple_getitem ht.typeIs entry_tuple_getitem ?_ (args_tuple_getitem _ _)))
  show wpAny _ _ (Builtin.Tuple.tupleItemsOf (.ref t) >>= _) _ _ s
  refine wpAny_bind (tupleItemsOf_ ht (wpAny_bind (wpAny_typeOf hT ?_)))
  rw [if_pos (by decide)]
  refine wpAny_bind (back_parts hs ps ?_)
  have hno : ¬ ((((items.size : Int) - 1) == 0 && (-1 : Int) == 1 && items.size == items.size) = true) := by simp
  show wpAny _ _ (if (((items.size : Int) - 1) == 0 && (-1 : Int) == 1 && items.size == items.size) = true then _ else _) _ _ s
  rw [if_neg hno, back_picked]
  first
    | exact wpAny_bind (m := Builtin.Tuple.tupleExact _) (wpAny_newObj_type (wpAny_pure ⟨_, rfl, wpAny_pure h⟩) fits)
    | exact wpAny_bind (m := Builtin.Tuple.tupleExact _) (wpAny_newObj_type (wpAny_bind (wpAny_pure (wpAny_pure ⟨_, rfl, wpAny_pure h⟩))) fits)
    | exact wpAny_bind (wpAny_bind (m := Builtin.Tuple.tupleExact _) (wpAny_newObj_type (wpAny_pure (wpAny_pure ⟨_, rfl, wpAny_pure h⟩)) fits))
    | exact wpAny_bind (wpAny_bind (m := Builtin.Tuple.tupleExact _) (wpAny_newObj_type (wpAny_pure ⟨_, rfl, wpAny_pure h⟩) fits))
end
/-! x[::-1] of a list or a tuple -/
section
variable {X : Cx} {J : Jx} {e : Expr} {f : EvF} {k : Nat} {p1 p2 p3 pos : Pos}
def tRev2 (K : PySem.W.Frag) (te : TE) : TE := fun σ H Q => te σ H fun x H1 => ∃ a xs, x = .ref a ∧ ((SqL K H1 a xs ∧ ∀ p, H1 p = none → Q (.ref p) (upd H1 p (.lst xs.reverse))) ∨ (SqT K H1 a xs ∧ ∀ p, H1 p = none → Q (.ref p) (upd H1 p (.tup xs.reverse))))
theorem pe_rev2 {te : TE} (he : PE X e te) : PE X (.Subscript e (.Slice none none (some (.UnaryOp .USub (.Constant (.int 1) k p1) p2)) p3) pos) (tRev2 X.K te) := by
  refine ⟨fun pins s σ H Q I h => Subscript_ (thn (he.run pins s σ H _ I h) fun v s1 ⟨x, H1, I1, r1, a, xs, ex, q1⟩ => ?_)⟩
  subst ex
  cases r1
  have hst : PO X (some (.UnaryOp .USub (.Constant (.int 1) k p1) p2)) (tPart (tUn (rU fun i => .int (-i)) (tC (.int 1)))) := po_some (pe_un un_neg pe_int)
  refine wpAny_Slice (thn (po_none.run pins s1 σ H1 (fun o H2 => o = none ∧ H2 = H1) I1 ⟨rfl, rfl⟩) fun vl s2 ⟨l, H2, I2, pl, el, e2⟩ => ?_)
  subst el e2
  refine thn (po_none.run pins s2 σ H2 (fun o H3 => o = none ∧ H3 = H2) I2 ⟨rfl, rfl⟩) fun vu s3 ⟨u, H3, I3, pu, eu, e3⟩ => ?_
  subst eu e3
  refine thn (hst.run pins s3 σ H3 (fun o H4 => o = some (-1) ∧ H4 = H3) I3 ⟨1, rfl, -1, rfl, rfl, rfl⟩) fun vs s4 ⟨o, H4, I4, ps, eo, e4⟩ => ?_
  subst eo e4
  have I5 : Inv X pins σ H4 { s4 with heap := s4.heap.push { cls := .type "slice", data := .fields #[vl, vu, vs] } } := I4.kept (t' := s4.toks) fun b ob q => Heap.get?_push_of_some _ q
  have hvl : vl = .none := by cases pl; rfl
  have hvu : vu = .none := by cases pu; rfl
  show wpAny (model X.prog X.w) X.A (subscriptTail e (.Slice none none (some (.UnaryOp .USub (.Constant (.int 1) k p1) p2)) p3) (.ref a) (.ref s4.heap.objs.size)) (EP X pins σ Q) X.xe { s4 with heap := s4.heap.push { cls := .type "slice", data := .fields #[vl, vu, vs] } }
  rcases q1 with ⟨hx, q⟩ | ⟨hx, q⟩
  · obtain ⟨its, r, ht, hz⟩ := I5.list hx
    have hlen := r.length
    refine tail_any (ops := [.ref a, .ref s4.heap.objs.size]) ht.isList.typeIs (PySem.slot_list_getitem.lookup) ?_ (by with_unfolding_all rfl)
    refine wpAny_getItem_list_slice ht.isList (Heap.IsSliceOf.new _ vl vu vs) pl pu ps (by decide) ?_ (by rw [List.size_toArray]; omega)
    rw [PySem.W.krv_pick]
    exact ⟨.ref _, _, I5.laid (t' := s4.toks) (o := .lst xs.reverse) (fun b ob q => Heap.get?_push_of_some _ q) (Nat.le_refl _) ⟨by rw [List.length_reverse]; exact hz, _, 0, r.reverse, Heap.get?_push_size _ rfl⟩, rfl, q _ (I5.hok.fresh (Nat.le_refl _))⟩
  · obtain ⟨its, r, ht, hz⟩ := I5.tuple hx
    have hlen := r.length
    refine tail_any (ops := [.ref a, .ref s4.heap.objs.size]) ht.typeIs (slot_tuple_getitem.lookup) ?_ (by with_unfolding_all rfl)
    have hsl := Heap.IsSliceOf.new s4.heap vl vu vs
    rw [hvl, hvu] at hsl
    rw [hvl, hvu] at ht I5 ⊢
    refine tup_back ht hsl ps ?_ (by rw [List.size_toArray]; omega)
    exact ⟨.ref _, _, I5.laid (t' := s4.toks) (o := .tup xs.reverse) (fun b ob q => Heap.get?_push_of_some _ q) (Nat.le_refl _) ⟨by rw [List.length_reverse]; exact hz, _, r.reverse, ⟨_, Heap.get?_push_size _ rfl, rfl, _, rfl⟩⟩, rfl, q _ (I5.hok.fresh (Nat.le_refl _))⟩
theorem RpA.reverse {K : PySem.W.Frag} {M : Addr → Prop} {H : Hp} : ∀ {vs : List V} {ds : List D}, RpA K M H vs ds → RpA K M H vs.reverse ds.reverse
  | _, _, .nil => .nil
  | _, _, .cons r t => by
    rw [List.reverse_cons, List.reverse_cons]
    exact t.reverse.append (.cons r .nil)
theorem de_rev2 (he : PE X e (tE X.K J f)) : PE X (.Subscript e (.Slice none none (some (.UnaryOp .USub (.Constant (.int 1) k p1) p2)) p3) pos) (tE X.K J (mUn revD f)) := by
  refine PE.by (pe_rev2 he) ?_
  rintro σ H Q ⟨G, ρ, R, h⟩
  refine ⟨G, ρ, R, h.bnd fun p h v H' R' r => ?_⟩
  obtain ⟨z, h2, h⟩ := h.pur
  obtain ⟨d, ρ1⟩ := p
  cases d with
  | list ds =>
    cases h2
    obtain ⟨a, vs, rfl, n, q, r⟩ := r.list_inv
    refine ⟨a, vs, rfl, .inl ⟨q, fun t ht kf => ?_⟩⟩
    exact h.ok _ _ (R'.same kf (Same.upd ht)) (.lst (R'.nown ht) (SqL.of upd_same) (r.reverse.same (Same.upd ht)))
  | tuple ds =>
    cases h2
    obtain ⟨a, vs, rfl, n, q, r⟩ := r.tup_inv
    refine ⟨a, vs, rfl, .inr ⟨q, fun t ht kf => ?_⟩⟩
    exact h.ok _ _ (R'.same kf (Same.upd ht)) (.tup (R'.nown ht) (SqT.of upd_same) (r.reverse.same (Same.upd ht)))
  | _ => cases h2
end

/-! ## sorted(set(..)) of what changes an own object -/
section
variable {S : Type} {R : S → DEnv} {s : S} {fv : EvV} {fs : EvI} {q : Res ((Bool × List D) × S)} {qi : Res (List Int × S)}
@[simp] def xseti (v : Res ((Bool × List D) × S)) : Res (List Int × S) := bnd v fun p => bnd (pur (numsS p.1)) fun z => .ok (z, p.2)
@[simp] def xsortU (v : Res (List Int × S)) : Res (List D × S) := bnd v fun p => if p.1.length < 64 then .ok ((sortU p.1).map .int, p.2) else stuck
theorem xSetI (a : EvX R (fv (R s)) q) : EvX R (mSetI fv (R s)) (xseti q) := EvX.bnd a fun _ _ => EvX.pur fun _ => EvX.ok
theorem xSortU (a : EvX R (fs (R s)) qi) : EvX R (mSortU fs (R s)) (xsortU qi) := EvX.bnd a fun ns t => by
  dsimp only
  split
  · exact EvX.ok
  · exact True.intro
end
end L2.DL

namespace L2.DL
open PySem PySem.Spec PyProof.Rows PySem.Calls

/-! ## except clauses, with names and without, one behind the other -/
def offE (oi : Option Nat) (D : Ends) : Ends := match oi with
  | none => D
  | some i => { nx := fun σ' H' => D.nx (σ'.set i none) H', rt := D.rt, bk := fun σ' H' => D.bk (σ'.set i none) H', ct := fun σ' H' => D.ct (σ'.set i none) H' }
def onS (oi : Option Nat) (a : Addr) (σ : St) : St := match oi with
  | none => σ
  | some i => σ.set i (some (.ref a))
abbrev HL := List (Value × Option Nat × (Addr → Value → Option Addr → TS))
def wMix (K : PySem.W.Frag) (Wout : WX) (D : Ends) : HL → WX
  | [] => Wout
  | (c, oi, ts) :: r => fun cls d σ H => ∃ b, PySem.W.exmOne K cls c = some b ∧ (b = true → ∀ a, H a = none → ts a cls d (offE oi D) (onS oi a σ) H) ∧ (b = false → wMix K Wout D r cls d σ H)
inductive HdsM (X : Cx) : List ExceptHandler → HL → Prop
  | nil : HdsM X [] []
  | as {x n : Str} {i : Nat} {c : Value} {ts : Addr → Value → Option Addr → TS} {b₀ : Stmt} {suite : List Stmt} {np pos' : Pos} {hds : List ExceptHandler} {l : HL} (hc : Names X x c) (hi : X.N[i]? = some n) (hln : X.env.kindOf n = some .local)
      (hsu : ∀ (a : Addr) (oe : Obj) (cls : Value) (d : Option Addr) (pn : List (Addr × Obj)), Zc cls d oe → (∃ vs, oe.data = .fields vs) → PSs (X.suite a ((a, oe) :: pn)) (b₀ :: suite) (ts a cls d)) (r : HdsM X hds l) :
      HdsM X (.ExceptHandler (some (.Name x np)) (some n) (b₀ :: suite) pos' :: hds) ((c, some i, ts) :: l)
  | pl {x : Str} {c : Value} {ts : Addr → Value → Option Addr → TS} {b₀ : Stmt} {suite : List Stmt} {np pos' : Pos} {hds : List ExceptHandler} {l : HL} (hc : Names X x c)
      (hsu : ∀ (a : Addr) (oe : Obj) (cls : Value) (d : Option Addr) (pn : List (Addr × Obj)), Zc cls d oe → (∃ vs, oe.data = .fields vs) → PSs (X.suite a ((a, oe) :: pn)) (b₀ :: suite) (ts a cls d)) (r : HdsM X hds l) :
      HdsM X (.ExceptHandler (some (.Name x np)) none (b₀ :: suite) pos' :: hds) ((c, none, ts) :: l)
section
variable {X : Cx} {body : List Stmt} {hd0 : ExceptHandler} {hds : List ExceptHandler} {l : HL} {pos : Pos} {tb : WX → TS} {Wout : WX}
theorem ps_try_mix (hs : X.stack = X.env :: X.outer) (hf : X.env.frame = some X.env.locals) (hN : X.N.Nodup) (tk : L2N.Takes X Wout)
    (hb : ∀ (W : WX) (pn : List (Addr × Obj)) (xe : Value → Shared → Prop), L2N.Takes (X.tr pn xe) W → PassesOwn (model X.prog X.w) X.A X.env xe → PSs (X.tr pn xe) body (tb W))
    (hh : HdsM X (hd0 :: hds) l) : PS X (.Try body (hd0 :: hds) [] [] pos) (fun D σ H => tb (wMix X.K Wout D l) D σ H) := by
  constructor
  intro pins s σ H D I h
  have ok := I.ok
  have hfr : X.A.frames = some (X.env :: X.outer) := ok.frames.trans (congrArg some hs)
  apply wpAny_Try_except
  refine wpAny_mono ((hb (wMix X.K Wout D l) (X.pn ++ pins) (fun e t => wpAny (model X.prog X.w) X.A (noteFrame e X.env) (fun _ t2 =>
    wpAny (model X.prog X.w) X.A (setFlight e none) (fun _ t3 => wpAny (model X.prog X.w) X.A (handleBy e X.env (hd0 :: hds)) (SP X pins D) X.xe t3) X.xe t2) X.xe t) ?_ PassesOwn.looking).run [] s σ H D (I.toTry _) h) ?_ (fun e t z => z)
  · rintro u s' ⟨a, B, sI, pins', σ', H', cls, d, rfl, J', nb, up, sky, na, os, ag, w⟩
    have J : Inv X pins σ' H' sI := J'.ofTry ok
    have sky2 : Sky B (X.env :: X.outer) a (L2N.Zn cls d) X.env.locals s'.heap := hs ▸ sky
    show wpAny (model X.prog X.w) X.A (noteFrame (.ref a) X.env) _ _ _
    refine L2N.Sky.land L2N.Zn.steady hfr hf sky2 fun g3 fl3 up3 => ?_
    have J3 : Inv X pins σ' H' { s' with heap := g3 } := J.landed nb fl3.1 (up.trans up3) os ag
    obtain ⟨o3, vs3, at3, z3, d3⟩ := fl3.there
    have out : a ∉ frs (X.env :: X.outer) := by
      intro hm
      obtain ⟨_, o2, e2, nof⟩ := fl3.2.2.1.mem hm
      rw [at3] at e2
      cases e2
      exact nof _ d3
    have nL : a ≠ X.env.locals := by
      intro z
      exact out (List.mem_filterMap.mpr ⟨X.env, List.mem_cons_self, by rw [hf, z]⟩)
    have nF : a ∉ X.fs := by
      intro hm
      obtain ⟨e, he, q⟩ := List.mem_filterMap.mp hm
      exact out (List.mem_filterMap.mpr ⟨e, List.mem_cons_of_mem _ he, q⟩)
    have S3 := J3.suite at3 d3 na nL nF
    have test : ∀ {x : Str} {c : Value} {np : Pos} {Q E : Value → Shared → Prop}, Names X x c → Q c { s' with heap := g3 } → wpAny (model X.prog X.w) (X.A.mark (some (.ref a))) (eval (.Name x np) X.env) Q E { s' with heap := g3 } := by
      intro x c np Q E hc q
      obtain ⟨hg, hdbg, hm | ⟨hm, hv, hnn⟩⟩ := hc
      · exact ld_glob (X := X.suite a ((a, o3) :: (X.pn ++ pins))) S3 hg hm q hdbg
      · exact ld_blt (X := X.suite a ((a, o3) :: (X.pn ++ pins))) S3 hg hm hv q hnn hdbg
    have matches_ : ∀ {c : Value} {b : Bool}, PySem.W.exmOne X.K cls c = some b → _ := fun {c b} hb1 =>
      PySem.W.exm_one (M := model X.prog X.w) J3.kIn (show PySem.W.Looks (model X.prog X.w) g3 (typeOf (.ref a)) cls from fun A Q E s k q => wpAny_typeOf_ref (k _ _ at3) (by rw [z3.1]; exact q)) hb1
    have back : ∀ (g4 : Heap), g3 = g3 → HandSPX.FlyingZ B (X.env :: X.outer) a (L2N.Zn cls d) g4 → s'.heap.UpToSlots g4 → ∃ o4, L2N.Zn cls d o4 ∧ (∃ vs, o4.data = .fields vs) ∧ Inv (X.suite a ((a, o4) :: (X.pn ++ pins))) [] σ' H' { s' with heap := g4 } := by
      intro g4 _ fl4 up4
      obtain ⟨o4, vs4, at4, z4, d4⟩ := fl4.there
      have J4 : Inv X pins σ' H' { s' with heap := g4 } := J.landed nb fl4.1 (up.trans up4) os ag
      exact ⟨o4, z4, ⟨_, d4⟩, J4.suite at4 d4 na nL nF⟩
    have go : ∀ {hs2 : List ExceptHandler} {l2 : HL}, HdsM X hs2 l2 → wMix X.K Wout D l2 cls d σ' H' → wpAny (model X.prog X.w) X.A (handleBy (.ref a) X.env hs2) (SP X pins D) X.xe { s' with heap := g3 } := by
      intro hs2 l2 hk
      induction hk with
      | nil =>
        intro w
        apply wpAny_handleBy_nil
        obtain ⟨_, _, _, oe, vs, T, oT, ts', he, hz, hd, h1, hr⟩ := id fl3
        unfold PySem.passOn
        apply wpAny_bind
        apply wpAny_field he hd h1
        rw [if_neg (show ¬ ((Value.ref T == Value.none) = true) from by simp)]
        have fin : wpAny (model X.prog X.w) X.A (setFlight (.ref a) X.env.frame) (fun _ t => wpAny (model X.prog X.w) X.A (throw (.ref a) : Sem Flow) (SP X pins D) X.xe t) X.xe { s' with heap := g3 } := by
          rw [hf]
          exact HandSPX.setFlight_upZ fl3 fun g4 hh4 up4 => wpAny_throw (tk _ _ ⟨a, B, sI, pins, σ', H', cls, d, rfl, J, nb, (up.trans up3).trans up4, .inr (.inr (by rw [hs]; exact hh4)), na, os, ag, w⟩)
        first
          | exact wpAny_bind (wpAny_pure (wpAny_bind fin))
          | exact wpAny_bind fin
      | @as x n i c ts b₀ suite np pos' hd2 l2 hc hi hln hsu r ih =>
        rintro ⟨b, hb1, hyes, hno⟩
        refine wpAny_handleBy_cons (codeAny_handlers_test (test hc ((matches_ hb1).here ?_))) (by intro q; cases q)
        cases b with
        | false => exact ih (hno rfl)
        | true =>
          apply codeAny_handlers_suite_as
          refine HandSPX.lands_againZ fl3 fun g4 fl4 up4 => ?_
          obtain ⟨o4, z4, d4, S4⟩ := back g4 rfl fl4 (up3.trans up4)
          refine store_ok (X := X.suite a ((a, o4) :: (X.pn ++ pins))) (v := .ref a) S4 hN hi (.inl hln) rfl (fun s5 S5 => ?_) (.inr hln)
          refine wpAny_mono ((hsu a o4 cls d (X.pn ++ pins) z4.zc d4).run [] s5 _ H' _ S5 (hyes rfl a na)) ?_ (fun _ _ z => False.elim z)
          intro f s6 hsp
          have away : ∀ {σ6 : St} {H6 : Hp} {Q : Shared → Prop}, Inv (X.suite a ((a, o4) :: (X.pn ++ pins))) [] σ6 H6 s6 → (∀ s7, Inv X pins (σ6.set i none) H6 s7 → Q s7) →
              wpAny (model X.prog X.w) X.A (do bindName X.env n .none; unbindBehindTheSuite X.env n pos') (fun _ s7 => Q s7) X.xe s6 := fun {σ6 H6 Q} S6 hq => gone_ok (S6.unsuite ok) hN hi hln hq
          cases f with
          | ret u => obtain ⟨v6, σ6, H6, S6, r6, q6⟩ := hsp; exact away S6 fun s7 J7 => ⟨_, _, _, J7, r6, q6⟩
          | next => obtain ⟨σ6, H6, S6, q6⟩ := hsp; exact away S6 fun s7 J7 => ⟨_, _, J7, q6⟩
          | brk => obtain ⟨σ6, H6, S6, q6⟩ := hsp; exact away S6 fun s7 J7 => ⟨_, _, J7, q6⟩
          | cont => obtain ⟨σ6, H6, S6, q6⟩ := hsp; exact away S6 fun s7 J7 => ⟨_, _, J7, q6⟩
      | @pl x c ts b₀ suite np pos' hd2 l2 hc hsu r ih =>
        rintro ⟨b, hb1, hyes, hno⟩
        refine wpAny_handleBy_cons (codeAny_handlers_test (test hc ((matches_ hb1).here ?_))) (by intro q; cases q)
        cases b with
        | false => exact ih (hno rfl)
        | true =>
          apply codeAny_handlers_suite
          refine HandSPX.lands_againZ fl3 fun g4 fl4 up4 => ?_
          obtain ⟨o4, z4, d4, S4⟩ := back g4 rfl fl4 (up3.trans up4)
          refine wpAny_mono ((hsu a o4 cls d (X.pn ++ pins) z4.zc d4).run [] _ _ H' _ S4 (hyes rfl a na)) ?_ (fun _ _ z => False.elim z)
          intro f s6 hsp
          cases f with
          | ret u => obtain ⟨v6, σ6, H6, S6, r6, q6⟩ := hsp; exact ⟨_, _, _, S6.unsuite ok, r6, q6⟩
          | next => obtain ⟨σ6, H6, S6, q6⟩ := hsp; exact ⟨_, _, S6.unsuite ok, q6⟩
          | brk => obtain ⟨σ6, H6, S6, q6⟩ := hsp; exact ⟨_, _, S6.unsuite ok, q6⟩
          | cont => obtain ⟨σ6, H6, S6, q6⟩ := hsp; exact ⟨_, _, S6.unsuite ok, q6⟩
    exact go hh w
  · intro f s1 hsp
    cases f with
    | next => obtain ⟨σ', H', J', q⟩ := hsp; exact wpAny_execs_nil ⟨σ', H', J'.ofTry ok, q⟩
    | brk => obtain ⟨σ', H', J', q⟩ := hsp; exact ⟨σ', H', J'.ofTry ok, q⟩
    | cont => obtain ⟨σ', H', J', q⟩ := hsp; exact ⟨σ', H', J'.ofTry ok, q⟩
    | ret u => obtain ⟨v, σ', H', J', r, q⟩ := hsp; exact ⟨v, σ', H', J'.ofTry ok, r, q⟩
theorem ps_try_mix2 (hs : X.stack = X.env :: X.outer) (hf : X.env.frame = some X.env.locals) (hN : X.N.Nodup) (tk : Takes X Wout)
    (hb : ∀ (W : WX) (pn : List (Addr × Obj)) (xe : Value → Shared → Prop), Takes (X.tr pn xe) W → PassesOwn (model X.prog X.w) X.A X.env xe → PSs (X.tr pn xe) body (tb W))
    (hh : HdsM X (hd0 :: hds) l) : PS X (.Try body (hd0 :: hds) [] [] pos) (fun D σ H => tb (wMix X.K Wout D l) D σ H) := by
  constructor
  intro pins s σ H D I h
  have ok := I.ok
  have hfr : X.A.frames = some (X.env :: X.outer) := ok.frames.trans (congrArg some hs)
  apply wpAny_Try_except
  refine wpAny_mono ((hb (wMix X.K Wout D l) (X.pn ++ pins) (fun e t => wpAny (model X.prog X.w) X.A (noteFrame e X.env) (fun _ t2 =>
    wpAny (model X.prog X.w) X.A (setFlight e none) (fun _ t3 => wpAny (model X.prog X.w) X.A (handleBy e X.env (hd0 :: hds)) (SP X pins D) X.xe t3) X.xe t2) X.xe t) ?_ PassesOwn.looking).run [] s σ H D (I.toTry _) h) ?_ (fun e t z => z)
  · rintro u s' ⟨a, B, sI, pins', σ', H', cls, d, rfl, J', nb, up, sky, na, os, ag, w⟩
    have J : Inv X pins σ' H' sI := J'.ofTry ok
    have sky2 : Sky B (X.env :: X.outer) a (Zc cls d) X.env.locals s'.heap := hs ▸ sky
    show wpAny (model X.prog X.w) X.A (noteFrame (.ref a) X.env) _ _ _
    refine Sky.land Zc.steady hfr hf sky2 fun g3 fl3 up3 => ?_
    have J3 : Inv X pins σ' H' { s' with heap := g3 } := J.landed nb fl3.1 (up.trans up3) os ag
    obtain ⟨o3, vs3, at3, z3, d3⟩ := fl3.there
    have out : a ∉ frs (X.env :: X.outer) := by
      intro hm
      obtain ⟨_, o2, e2, nof⟩ := fl3.2.2.1.mem hm
      rw [at3] at e2
      cases e2
      exact nof _ d3
    have nL : a ≠ X.env.locals := by
      intro z
      exact out (List.mem_filterMap.mpr ⟨X.env, List.mem_cons_self, by rw [hf, z]⟩)
    have nF : a ∉ X.fs := by
      intro hm
      obtain ⟨e, he, q⟩ := List.mem_filterMap.mp hm
      exact out (List.mem_filterMap.mpr ⟨e, List.mem_cons_of_mem _ he, q⟩)
    have S3 := J3.suite at3 d3 na nL nF
    have test : ∀ {x : Str} {c : Value} {np : Pos} {Q E : Value → Shared → Prop}, Names X x c → Q c { s' with heap := g3 } → wpAny (model X.prog X.w) (X.A.mark (some (.ref a))) (eval (.Name x np) X.env) Q E { s' with heap := g3 } := by
      intro x c np Q E hc q
      obtain ⟨hg, hdbg, hm | ⟨hm, hv, hnn⟩⟩ := hc
      · exact ld_glob (X := X.suite a ((a, o3) :: (X.pn ++ pins))) S3 hg hm q hdbg
      · exact ld_blt (X := X.suite a ((a, o3) :: (X.pn ++ pins))) S3 hg hm hv q hnn hdbg
    have matches_ : ∀ {c : Value} {b : Bool}, PySem.W.exmOne X.K cls c = some b → _ := fun {c b} hb1 =>
      PySem.W.exm_one (M := model X.prog X.w) J3.kIn (show PySem.W.Looks (model X.prog X.w) g3 (typeOf (.ref a)) cls from fun A Q E s k q => wpAny_typeOf_ref (k _ _ at3) (by rw [z3.1]; exact q)) hb1
    have back : ∀ (g4 : Heap), g3 = g3 → HandSPX.FlyingZ B (X.env :: X.outer) a (Zc cls d) g4 → s'.heap.UpToSlots g4 → ∃ o4, Zc cls d o4 ∧ (∃ vs, o4.data = .fields vs) ∧ Inv (X.suite a ((a, o4) :: (X.pn ++ pins))) [] σ' H' { s' with heap := g4 } := by
      intro g4 _ fl4 up4
      obtain ⟨o4, vs4, at4, z4, d4⟩ := fl4.there
      have J4 : Inv X pins σ' H' { s' with heap := g4 } := J.landed nb fl4.1 (up.trans up4) os ag
      exact ⟨o4, z4, ⟨_, d4⟩, J4.suite at4 d4 na nL nF⟩
    have go : ∀ {hs2 : List ExceptHandler} {l2 : HL}, HdsM X hs2 l2 → wMix X.K Wout D l2 cls d σ' H' → wpAny (model X.prog X.w) X.A (handleBy (.ref a) X.env hs2) (SP X pins D) X.xe { s' with heap := g3 } := by
      intro hs2 l2 hk
      induction hk with
      | nil =>
        intro w
        apply wpAny_handleBy_nil
        obtain ⟨_, _, _, oe, vs, T, oT, ts', he, hz, hd, h1, hr⟩ := id fl3
        unfold PySem.passOn
        apply wpAny_bind
        apply wpAny_field he hd h1
        rw [if_neg (show ¬ ((Value.ref T == Value.none) = true) from by simp)]
        have fin : wpAny (model X.prog X.w) X.A (setFlight (.ref a) X.env.frame) (fun _ t => wpAny (model X.prog X.w) X.A (throw (.ref a) : Sem Flow) (SP X pins D) X.xe t) X.xe { s' with heap := g3 } := by
          rw [hf]
          exact HandSPX.setFlight_upZ fl3 fun g4 hh4 up4 => wpAny_throw (tk _ _ ⟨a, B, sI, pins, σ', H', cls, d, rfl, J, nb, (up.trans up3).trans up4, .inr (.inr (by rw [hs]; exact hh4)), na, os, ag, w⟩)
        first
          | exact wpAny_bind (wpAny_pure (wpAny_bind fin))
          | exact wpAny_bind fin
      | @as x n i c ts b₀ suite np pos' hd2 l2 hc hi hln hsu r ih =>
        rintro ⟨b, hb1, hyes, hno⟩
        refine wpAny_handleBy_cons (codeAny_handlers_test (test hc ((matches_ hb1).here ?_))) (by intro q; cases q)
        cases b with
        | false => exact ih (hno rfl)
        | true =>
          apply codeAny_handlers_suite_as
          refine HandSPX.lands_againZ fl3 fun g4 fl4 up4 => ?_
          obtain ⟨o4, z4, d4, S4⟩ := back g4 rfl fl4 (up3.trans up4)
          refine store_ok (X := X.suite a ((a, o4) :: (X.pn ++ pins))) (v := .ref a) S4 hN hi (.inl hln) rfl (fun s5 S5 => ?_) (.inr hln)
          refine wpAny_mono ((hsu a o4 cls d (X.pn ++ pins) z4 d4).run [] s5 _ H' _ S5 (hyes rfl a na)) ?_ (fun _ _ z => False.elim z)
          intro f s6 hsp
          have away : ∀ {σ6 : St} {H6 : Hp} {Q : Shared → Prop}, Inv (X.suite a ((a, o4) :: (X.pn ++ pins))) [] σ6 H6 s6 → (∀ s7, Inv X pins (σ6.set i none) H6 s7 → Q s7) →
              wpAny (model X.prog X.w) X.A (do bindName X.env n .none; unbindBehindTheSuite X.env n pos') (fun _ s7 => Q s7) X.xe s6 := fun {σ6 H6 Q} S6 hq => gone_ok (S6.unsuite ok) hN hi hln hq
          cases f with
          | ret u => obtain ⟨v6, σ6, H6, S6, r6, q6⟩ := hsp; exact away S6 fun s7 J7 => ⟨_, _, _, J7, r6, q6⟩
          | next => obtain ⟨σ6, H6, S6, q6⟩ := hsp; exact away S6 fun s7 J7 => ⟨_, _, J7, q6⟩
          | brk => obtain ⟨σ6, H6, S6, q6⟩ := hsp; exact away S6 fun s7 J7 => ⟨_, _, J7, q6⟩
          | cont => obtain ⟨σ6, H6, S6, q6⟩ := hsp; exact away S6 fun s7 J7 => ⟨_, _, J7, q6⟩
      | @pl x c ts b₀ suite np pos' hd2 l2 hc hsu r ih =>
        rintro ⟨b, hb1, hyes, hno⟩
        refine wpAny_handleBy_cons (codeAny_handlers_test (test hc ((matches_ hb1).here ?_))) (by intro q; cases q)
        cases b with
        | false => exact ih (hno rfl)
        | true =>
          apply codeAny_handlers_suite
          refine HandSPX.lands_againZ fl3 fun g4 fl4 up4 => ?_
          obtain ⟨o4, z4, d4, S4⟩ := back g4 rfl fl4 (up3.trans up4)
          refine wpAny_mono ((hsu a o4 cls d (X.pn ++ pins) z4 d4).run [] _ _ H' _ S4 (hyes rfl a na)) ?_ (fun _ _ z => False.elim z)
          intro f s6 hsp
          cases f with
          | ret u => obtain ⟨v6, σ6, H6, S6, r6, q6⟩ := hsp; exact ⟨_, _, _, S6.unsuite ok, r6, q6⟩
          | next => obtain ⟨σ6, H6, S6, q6⟩ := hsp; exact ⟨_, _, S6.unsuite ok, q6⟩
          | brk => obtain ⟨σ6, H6, S6, q6⟩ := hsp; exact ⟨_, _, S6.unsuite ok, q6⟩
          | cont => obtain ⟨σ6, H6, S6, q6⟩ := hsp; exact ⟨_, _, S6.unsuite ok, q6⟩
    exact go hh w
  · intro f s1 hsp
    cases f with
    | next => obtain ⟨σ', H', J', q⟩ := hsp; exact wpAny_execs_nil ⟨σ', H', J'.ofTry ok, q⟩
    | brk => obtain ⟨σ', H', J', q⟩ := hsp; exact ⟨σ', H', J'.ofTry ok, q⟩
    | cont => obtain ⟨σ', H', J', q⟩ := hsp; exact ⟨σ', H', J'.ofTry ok, q⟩
    | ret u => obtain ⟨v, σ', H', J', r, q⟩ := hsp; exact ⟨v, σ', H', J'.ofTry ok, r, q⟩
end

/-! ## try, on data -/
def wX1 : Option Sl → Option Sl
  | some (.exn _ _) => none
  | x => x
/-- no exception stands in a slot any more -/
def wipeX (ρ : DEnv) : DEnv := ρ.map wX1
theorem wipeX_get {ρ : DEnv} {i : Nat} {s : Sl} (h : (wipeX ρ)[i]? = some (some s)) : ρ[i]? = some (some s) ∧ ∀ c fs, s ≠ .exn c fs := by
  unfold wipeX at h
  rw [List.getElem?_map] at h
  cases e : ρ[i]? with
  | none => rw [e] at h; cases h
  | some x =>
    rw [e] at h
    cases x with
    | none => cases h
    | some y =>
      cases y with
      | exn c fs => cases h
      | dat d => cases h; exact ⟨rfl, fun _ _ z => nomatch z⟩
      | ob b o => cases h; exact ⟨rfl, fun _ _ z => nomatch z⟩
      | raw => cases h; exact ⟨rfl, fun _ _ z => nomatch z⟩
theorem wipeX_len (ρ : DEnv) : (wipeX ρ).length = ρ.length := List.length_map ..
section
variable {K : PySem.W.Frag} {J : Jx} {G : Gh} {ρ : DEnv} {σ : St} {H : Hp}
theorem wipeX_own {i : Nat} {a : Addr} (h : OwnAt (wipeX ρ) σ i a) : OwnAt ρ σ i a := by
  obtain ⟨b, o, h1, h2⟩ := h
  exact ⟨b, o, (wipeX_get h1).1, h2⟩
theorem wipeX_mm {a : Addr} (h : MM G (wipeX ρ) σ a) : MM G ρ σ a := h.imp id fun ⟨i, q⟩ => ⟨i, wipeX_own q⟩
theorem wipeX_mb {a : Addr} (h : MB G (wipeX ρ) σ a) : MB G ρ σ a := h.imp id fun ⟨i, o, h1, h2⟩ => ⟨i, o, (wipeX_get h1).1, h2⟩
/-- what is caught, and what is wished, are told anew -/
theorem Rel.reX (R : Rel K J G ρ σ H) (J' : Jx) (h1 : J'.th = J.th) (h2 : J'.kn = J.kn) : Rel K J' G (wipeX ρ) σ H := by
  refine ⟨by rw [wipeX_len]; exact R.len, R.kf, R.dom, fun i d h => ?_, fun i b o h => ?_, fun i j a p q => R.sep i j a (wipeX_own p) (wipeX_own q), fun v d z => (R.held v d z).weak fun _ => wipeX_mm, R.keep, fun i c fs h => ?_, fun i h => ?_, by rw [h2]; exact R.kn⟩
  · obtain ⟨v, e, r⟩ := R.dat i d (wipeX_get h).1
    exact ⟨v, e, r.weak fun _ => wipeX_mm⟩
  · obtain ⟨a, u, e1, e2, e3, e4⟩ := R.own i b o (wipeX_get h).1
    exact ⟨a, u, e1, e2, e3.weak fun _ => wipeX_mm, e4⟩
  · exact absurd rfl ((wipeX_get h).2 c fs)
  · rw [h1]
    exact R.raw i (wipeX_get h).1
/-- another wish -/
theorem Rel.reW (R : Rel K J G ρ σ H) (W : WX) : Rel K { J with W := W } G ρ σ H := ⟨R.len, R.kf, R.dom, R.dat, R.own, R.sep, R.held, R.keep, R.exn, R.raw, R.kn⟩
theorem Rel.unW {W : WX} (R : Rel K { J with W := W } G ρ σ H) : Rel K J G ρ σ H := ⟨R.len, R.kf, R.dom, R.dat, R.own, R.sep, R.held, R.keep, R.exn, R.raw, R.kn⟩
end
/-- an except clause: the classes that it takes (true) and lets by (false); the slot of its name; its suite -/
structure Hd where
  tk : List (Str × Bool)
  i : Option Nat
  f : EvS
def onE (oi : Option Nat) (c : Str) (fs : List (Str × D)) (ρ : DEnv) : DEnv := match oi with
  | none => ρ
  | some i => ρ.set i (some (.exn c fs))
def offD (oi : Option Nat) (ρ : DEnv) : DEnv := match oi with
  | none => ρ
  | some i => ρ.set i none
def mHd (h : Hd) (c : Str) (fs : List (Str × D)) : EvS := fun ρ => bnd (pur (h.f (onE h.i c fs (wipeX ρ)))) fun p => .ok (p.1, offD h.i (wipeX p.2))
def mHds (c : Str) (fs : List (Str × D)) : List Hd → EvS
  | [], ρ => .error (.exc c fs ρ)
  | h :: hs, ρ => match h.tk.lookup c with
    | some true => mHd h c fs ρ
    | some false => mHds c fs hs ρ
    | none => stuck
def mTry (b : EvS) (hs : List Hd) : EvS := fun ρ => match b ρ with
  | .ok p => .ok p
  | .error (.exc c fs ρ') => mHds c fs hs ρ'
  | .error .stuck => stuck
def Jx.caught (J : Jx) (a : Addr) (cls : Value) (d : Option Addr) : Jx := { J with W := fun _ _ _ _ => False, hk := some (a, cls, d) }
/-- the class x, and which classes an except clause of its name takes -/
structure CatchX (K : PySem.W.Frag) (mg : Str → Option Value) (x : Str) (tk : List (Str × Bool)) : Prop where
  ex : ∃ CH : Addr, mg x = some (.ref CH) ∧ ∀ c b, tk.lookup c = some b → ∀ C, clsAt K c C → PySem.W.exmOne K (.ref C) (.ref CH) = some b
inductive HdsD (X : Cx) (J : Jx) : List ExceptHandler → List Hd → HL → Prop
  | nil : HdsD X J [] [] []
  | as {x n : Str} {i : Nat} {tk : List (Str × Bool)} {f : EvS} {CH : Addr} {b₀ : Stmt} {suite : List Stmt} {np pos' : Pos} {hds : List ExceptHandler} {l : List Hd} {L : HL} (hc : Names X x (.ref CH)) (hk : ∀ c b, tk.lookup c = some b → ∀ C, clsAt X.K c C → PySem.W.exmOne X.K (.ref C) (.ref CH) = some b)
      (hi : X.N[i]? = some n) (hln : X.env.kindOf n = some .local)
      (hsu : ∀ (a : Addr) (oe : Obj) (cls : Value) (d : Option Addr) (pn : List (Addr × Obj)), Zc cls d oe → (∃ vs, oe.data = .fields vs) → PSs (X.suite a ((a, oe) :: pn)) (b₀ :: suite) (tS X.K (J.caught a cls d) f)) (r : HdsD X J hds l L) :
      HdsD X J (.ExceptHandler (some (.Name x np)) (some n) (b₀ :: suite) pos' :: hds) (⟨tk, some i, f⟩ :: l) ((.ref CH, some i, fun a cls d => tS X.K (J.caught a cls d) f) :: L)
  | pl {x : Str} {tk : List (Str × Bool)} {f : EvS} {CH : Addr} {b₀ : Stmt} {suite : List Stmt} {np pos' : Pos} {hds : List ExceptHandler} {l : List Hd} {L : HL} (hc : Names X x (.ref CH)) (hk : ∀ c b, tk.lookup c = some b → ∀ C, clsAt X.K c C → PySem.W.exmOne X.K (.ref C) (.ref CH) = some b)
      (hsu : ∀ (a : Addr) (oe : Obj) (cls : Value) (d : Option Addr) (pn : List (Addr × Obj)), Zc cls d oe → (∃ vs, oe.data = .fields vs) → PSs (X.suite a ((a, oe) :: pn)) (b₀ :: suite) (tS X.K (J.caught a cls d) f)) (r : HdsD X J hds l L) :
      HdsD X J (.ExceptHandler (some (.Name x np)) none (b₀ :: suite) pos' :: hds) (⟨tk, none, f⟩ :: l) ((.ref CH, none, fun a cls d => tS X.K (J.caught a cls d) f) :: L)
theorem HdsD.m {X : Cx} {J : Jx} {hds : List ExceptHandler} {l : List Hd} {L : HL} (h : HdsD X J hds l L) : HdsM X hds L := by
  induction h with
  | nil => exact .nil
  | as hc _ hi hln hsu _ ih => exact .as hc hi hln hsu ih
  | pl hc _ hsu _ ih => exact .pl hc hsu ih
section
variable {K : PySem.W.Frag} {J : Jx} {G : Gh} {ρ : DEnv} {σ : St} {H : Hp} {E : Ends} {c : Str} {fs : List (Str × D)} {cls : Value} {d : Option Addr}
/-- what a clause's suite is to bring -/
theorem hd_run {tk : List (Str × Bool)} {f : EvS} {oi : Option Nat} {a : Addr} (R : Rel K J G ρ σ H) (x : XRep K (MM G ρ σ) H cls d c fs) (h : Out (wS K J G) (mHd ⟨tk, oi, f⟩ c fs ρ) fun p => wantS K J E G p.1 p.2) :
    tS K (J.caught a cls d) f (offE oi E) (onS oi a σ) H := by
  have R1 : Rel K (J.caught a cls d) G (wipeX ρ) σ H := R.reX _ rfl rfl
  have R2 : Rel K (J.caught a cls d) G (onE oi c fs (wipeX ρ)) (onS oi a σ) H := by
    cases oi with
    | none => exact R1
    | some i => exact R1.put (fun _ _ z => nomatch z) (fun _ z => nomatch z) (fun c' fs' z _ => by cases z; exact ⟨a, cls, d, rfl, rfl, x.weak fun _ => wipeX_mm⟩) (fun z => nomatch z)
  refine ⟨G, _, R2, ?_⟩
  unfold mHd at h
  obtain ⟨p, e, h⟩ := h.pur
  dsimp only at e
  rw [e]
  have h : wantS K J E G p.1 (offD oi (wipeX p.2)) := h
  obtain ⟨ctl, ρ2⟩ := p
  have back : ∀ {σ2 H2}, Rel K (J.caught a cls d) G ρ2 σ2 H2 → Rel K J G (offD oi (wipeX ρ2)) (match oi with | none => σ2 | some i => σ2.set i none) H2 := fun {σ2 H2} Q => by
    have Q1 : Rel K J G (wipeX ρ2) σ2 H2 := Q.reX _ rfl rfl
    cases oi with
    | none => exact Q1
    | some i => exact Q1.clear
  show wantS K (J.caught a cls d) (offE oi E) G ctl ρ2
  cases ctl with
  | nx => intro σ2 H2 Q; have := h _ _ (back Q); cases oi <;> exact this
  | bk => intro σ2 H2 Q; have := h _ _ (back Q); cases oi <;> exact this
  | ct => intro σ2 H2 Q; have := h _ _ (back Q); cases oi <;> exact this
  | rt d2 =>
    intro σ2 v H2 Q r
    have := h _ v _ (back Q) (r.weak fun b z => by
      cases oi with
      | none => exact wipeX_mb z
      | some i =>
        rcases z with z | ⟨j, o, z1, z2⟩
        · exact .inl z
        · refine .inr ⟨j, o, ?_, ?_⟩
          · rcases set_get (show ((wipeX ρ2).set i none)[j]? = _ from z1) with ⟨_, e⟩ | ⟨_, e⟩
            · cases e
            · exact (wipeX_get e).1
          · rcases set_get (show (σ2.set i none)[j]? = _ from z2) with ⟨_, e⟩ | ⟨_, e⟩
            · cases e
            · exact e)
    cases oi <;> exact this
theorem hds_run {X : Cx} (R : Rel X.K J G ρ σ H) (x : XRep X.K (MM G ρ σ) H cls d c fs) {hds : List ExceptHandler} {l : List Hd} {L : HL} (hh : HdsD X J hds l L) (h : Out (wS X.K J G) (mHds c fs l ρ) fun p => wantS X.K J E G p.1 p.2) : wMix X.K J.W E L cls d σ H := by
  induction hh with
  | nil => exact h σ cls d H R x
  | @as x' n i tk f CH b₀ suite np pos' hds2 l2 L2' hc hk hi hln hsu r ih =>
    obtain ⟨C, hC, rfl, hx⟩ := id x
    unfold mHds at h
    dsimp only at h
    split at h
    · rename_i e
      exact ⟨true, hk _ _ e _ hC, fun _ a _ => hd_run R x h, fun z => nomatch z⟩
    · rename_i e
      exact ⟨false, hk _ _ e _ hC, (fun z => nomatch z), fun _ => ih h⟩
    · exact h.elim
  | @pl x' tk f CH b₀ suite np pos' hds2 l2 L2' hc hk hsu r ih =>
    obtain ⟨C, hC, rfl, hx⟩ := id x
    unfold mHds at h
    dsimp only at h
    split at h
    · rename_i e
      exact ⟨true, hk _ _ e _ hC, fun _ a _ => hd_run R x h, fun z => nomatch z⟩
    · rename_i e
      exact ⟨false, hk _ _ e _ hC, (fun z => nomatch z), fun _ => ih h⟩
    · exact h.elim
end
theorem ds_try {X : Cx} {J : Jx} {body : List Stmt} {hd0 : ExceptHandler} {hds : List ExceptHandler} {h0 : Hd} {l : List Hd} {L : HL} {b : EvS} {pos : Pos} (hs : X.stack = X.env :: X.outer) (hf : X.env.frame = some X.env.locals) (hN : X.N.Nodup) (tk : L2N.Takes X J.W)
    (hb : ∀ (W : WX) (pn : List (Addr × Obj)) (xe : Value → Shared → Prop), L2N.Takes (X.tr pn xe) W → PassesOwn (model X.prog X.w) X.A X.env xe → PSs (X.tr pn xe) body (tS X.K { J with W := W } b))
    (hh : HdsD X J (hd0 :: hds) (h0 :: l) L) : PS X (.Try body (hd0 :: hds) [] [] pos) (tS X.K J (mTry b (h0 :: l))) := by
  refine PS.imp (ps_try_mix hs hf hN tk hb hh.m) fun E σ H h => ?_
  obtain ⟨G, ρ, R, h⟩ := h
  refine ⟨G, ρ, R.reW _, ?_⟩
  unfold mTry at h
  cases e : b ρ with
  | ok p =>
    rw [e] at h
    obtain ⟨ctl, ρ2⟩ := p
    cases ctl with
    | nx => exact fun σ2 H2 Q => h σ2 H2 Q.unW
    | bk => exact fun σ2 H2 Q => h σ2 H2 Q.unW
    | ct => exact fun σ2 H2 Q => h σ2 H2 Q.unW
    | rt d2 => exact fun σ2 v H2 Q r => h σ2 v H2 Q.unW r
  | error er =>
    rw [e] at h
    cases er with
    | stuck => exact h.elim
    | exc c fs ρ' => exact fun σ2 cls d H2 Q x => hds_run Q.unW x hh h

/-! ## e.f of a caught exception -/
structure FldX (K : PySem.W.Frag) (n : Str) (cs : List Str) : Prop where
  ok : ∀ c ∈ cs, ∀ C, clsAt K c C → XfC K C ∧ PySem.W.findIn K (.ref C) n = some none
def mFld (i : Nat) (n : Str) (cs : List Str) : EvF := fun ρ => match ρ[i]? with
  | some (some (.exn c fs)) => if c ∈ cs then match fs.lookup n with | some d => .ok (d, ρ) | none => stuck else stuck
  | _ => stuck
theorem fld_at {K : PySem.W.Frag} {M : Addr → Prop} {H : Hp} {n : Str} {d : D} : ∀ {fs : List (Str × D)} {vs : List V}, RpA K M H vs (fs.map (·.2)) → fs.lookup n = some d → ∃ v, ((fs.map (·.1)).zip vs).lookup n = some v ∧ Rp K M H v d
  | [], _, _, h => by cases h
  | (f, e) :: fs, vs, r, h => by
    cases r with
    | @cons v vs _ _ r1 r2 =>
      by_cases q : n = f
      · subst q
        simp [List.lookup] at h ⊢
        subst h
        exact r1
      · have q' : (n == f) = false := by simpa using q
        simp [List.lookup, q'] at h ⊢
        exact fld_at r2 h
theorem de_fld {X : Cx} {J : Jx} {a : Addr} {oe : Obj} {cls : Value} {d : Option Addr} {pn : List (Addr × Obj)} {n : Str} {cs : List Str} {pos p2 : Pos} (i : Nat) {x : Str} (F : FldX X.K n cs) (hz : Zc cls d oe) (hf : ∃ vs, oe.data = .fields vs)
    (hN : X.N[i]? = some x := by rfl) (hv : Vis X.env.scope x := by first | exact Or.inl rfl | exact Or.inr (Or.inl rfl) | exact Or.inr (Or.inr rfl)) (hd : (x == ("__debug__" : Str)) = false := by decide)
    (hcd : (x == ("__classdict__" : Str)) = false := by decide) (hb : attributeBase (.Name x p2) n X.env (eval (.Name x p2) X.env) = eval (.Name x p2) X.env := by rfl) :
    PE (X.suite a ((a, oe) :: pn)) (.Attribute (.Name x p2) n pos) (tE X.K (J.caught a cls d) (mFld i n cs)) := by
  constructor
  rintro pins s σ H Q I ⟨G, ρ, R, h⟩
  unfold mFld at h
  split at h
  · rename_i c fs e
    split at h
    · rename_i hc
      split at h
      · rename_i dv el
        obtain ⟨a', cls', d', e1, e2, C, hC, rfl, hx⟩ := R.exn i c fs e
        cases e1
        obtain ⟨T, hno⟩ := F.ok c hc C hC
        rcases hx with ⟨e0, _⟩ | ⟨dd, vs, l, ed, nM, eH, ll, rv⟩
        · subst e0; cases el
        · obtain ⟨v, ev, rv⟩ := fld_at rv el
          refine (pe_xf (te := tVar i) T hno hz hf (pv i hN hv hd hcd) hb).run pins s σ H Q I ?_
          exact ⟨.ref a, e2, rfl, rfl, dd, l, v, ed, eH, by rw [ll]; exact ev, h v H R rv⟩
      · exact h.elim
    · exact h.elim
  · exact h.elim
end L2.DL

namespace L2.DL
open PySem PySem.Spec PyProof.Rows PySem.Calls

/-- the first def of a class -/
def inSt (s : Stmt) : Stmt := match s with
  | .ClassDef _ _ _ body _ _ _ _ _ _ _ => (match body with | b :: _ => b | [] => s)
  | _ => s
/-- an exception class of the text, with its own __init__ (st), as the top has left it -/
structure XFacts (P : Program) (K : PySem.W.Frag) (x : Str) (st : Stmt) (fs : List Str) : Prop where
  ex : ∃ (C fi cda cc : Addr) (oc kV doc pm ct ccl cl : Value) (od an cdd cld : Option Addr) (osl ccs csl : Array (Option Value)) (cv : Array Value) (file : Str) (tf : Tok) (qual : Str),
    clsAt K x C ∧ ExcK P K C ∧ PySem.W.findIn K (.ref C) "__init__" = some (some (.ref fi)) ∧ PySem.W.typeIn K (.ref fi) = some (.type "function") ∧
    K.lookup fi = some ⟨oc, od, .func (PySem.W.ksFn "__init__" qual (defArgs st) (defBody st) (defScope st) .none kV doc pm an (.ref cda) ct cc), osl⟩ ∧ PySem.W.codeIn K (.ref cda) qual = true ∧
    K.lookup cda = some ⟨ccl, cdd, .fields cv, ccs⟩ ∧ cv[2]? = some (.str file tf) ∧ (P.main.file == file) = true ∧ K.lookup cc = some ⟨cl, cld, .cell (some (.ref C)), csl⟩ ∧ ∀ f ∈ fs, PySem.W.findIn K (.ref C) f = some none
theorem excK_of {P : Program} {K : PySem.W.Frag} {C : Addr} {nm q : Str} {N : Addr} {bs bm : List Value} {sn : List Str} {sub : List Value} {ab : Bool} {col : Option Bool} {dd : Option Addr} {k0 k1 k2 k3 k5 : Option Value}
    (h1 : K.lookup C = some (excClassObj nm q C N bs bm true sn sub ab col dd k0 k1 k2 k3 k5 "ValueError.__new__")) (h2 : PySem.HandSPX.refsVE bm = true) (h3 : PySem.W.findIn K (.ref C) "__setattr__" = some (some (.builtin "object.__setattr__")))
    (h4 : PySem.W.subIn K (.ref C) (.type "BaseException") = some true) (h5 : PySem.W.typeIn K (.ref C) = some (.type "type")) (h6 : PySem.W.keepIn K (.ref C) = true)
    (g1 : PySem.W.ks_superIn K C C "__init__" = some (some (.builtin VE))) (g2 : PySem.W.nsIn K cStatics "thirdparty.any" = some none) (g3 : PySem.W.subIn K (.ref C) (.type "ValueError") = some true) (g4 : PySem.W.mroIn K C (.ref C) = some true)
    (g5 : PySem.W.nsIn K mainGlobals "super" = some none) (g6 : (P.main.scope.names.lookup ("super" : Str)).isSome = false) : ExcK P K C :=
  ⟨⟨⟨nm, q, N, bs, bm, sn, sub, ab, col, dd, k0, k1, k2, k3, k5, h1, h2⟩, h3, h4, h5, h6⟩, g1, g2, g3, g4, g5, g6⟩
theorem XFacts.mk' {P : Program} {K : PySem.W.Frag} {x : Str} {st : Stmt} {fs : List Str} {C fi cda cc : Addr} {oc kV doc pm ct ccl cl : Value} {od an cdd cld : Option Addr} {osl ccs csl : Array (Option Value)} {cv : Array Value} {file : Str} {tf : Tok} {qual : Str}
    (h1 : PySem.W.nsIn K mainGlobals x = some (some (.ref C))) (h2 : ExcK P K C) (h3 : PySem.W.findIn K (.ref C) "__init__" = some (some (.ref fi))) (h4 : PySem.W.typeIn K (.ref fi) = some (.type "function"))
    (h5 : K.lookup fi = some ⟨oc, od, .func (PySem.W.ksFn "__init__" qual (defArgs st) (defBody st) (defScope st) .none kV doc pm an (.ref cda) ct cc), osl⟩) (h6 : PySem.W.codeIn K (.ref cda) qual = true)
    (h7 : K.lookup cda = some ⟨ccl, cdd, .fields cv, ccs⟩) (h8 : cv[2]? = some (.str file tf)) (h9 : (P.main.file == file) = true) (h10 : K.lookup cc = some ⟨cl, cld, .cell (some (.ref C)), csl⟩) (h11 : ∀ f ∈ fs, PySem.W.findIn K (.ref C) f = some none) : XFacts P K x st fs :=
  ⟨⟨C, fi, cda, cc, oc, kV, doc, pm, ct, ccl, cl, od, an, cdd, cld, osl, ccs, csl, cv, file, tf, qual, h1, h2, h3, h4, h5, h6, h7, h8, h9, h10, h11⟩⟩
section
variable {P : Program} {w : World} {K : PySem.W.Frag} {mg : Str → Option Value} {base : Heap} {x f g : Str} {st : Stmt} {p0 p1 p2 p3 p4 p5 p6 p7 p8 p9 q5 q6 q7 q8 q9 : Pos}
theorem XFacts.has1 (F : XFacts P K x st [f]) (hm : ∀ C, clsAt K x C → mg x = some (.ref C)) (hst : defBody st = [.Expr (.Call (.Attribute (.Call (.Name "super" p0) [] [] p1) "__init__" p2) [.Name f p5] [] p3) p4, .Assign [.Attribute (.Name "self" p6) f p7] (.Name f p8) p9])
    (S : IScope ["self", f] (defScope st)) (har : ((defArgs st).posonlyargs ++ (defArgs st).args).head? = some ⟨"self", none, q5⟩)
    (hbind : ∀ (qual : Str) (cl : List (Str × Addr)) (kV doc pm : Value) (an : Option Addr) (cdv ct : Value) (us : List Value), us.length = 2 → bindArgs (PySem.W.fnX "__init__" qual (defArgs st) (defBody st) (defScope st) cl .none kV doc pm an cdv ct) ⟨us, []⟩ = pure ([("self" : Str), f].zip us))
    (hev : ∀ (qual : Str) (L fi cda cc : Addr), ∃ pl : Sem Bool, eval (.Call (.Attribute (.Call (.Name "super" p0) [] [] p1) "__init__" p2) [.Name f p5] [] p3) (PySem.W.ksEnv qual (defScope st) L fi (.ref cda) cc) = (do
      let ov ← attributeBase (.Call (.Name "super" p0) [] [] p1) "__init__" (PySem.W.ksEnv qual (defScope st) L fi (.ref cda) cc) (eval (.Call (.Name "super" p0) [] [] p1) (PySem.W.ksEnv qual (defScope st) L fi (.ref cda) cc))
      standAt p2.atName
      let (fm, first) ← holding [ov] (getMethod ov "__init__" pl)
      callWith p3 fm first (backTo p3 (starEach [.Name f p5] (PySem.W.ksEnv qual (defScope st) L fi (.ref cda) cc))) []))
    (hd : (f == ("__debug__" : Str)) = false := by decide) (hcd : (f == ("__classdict__" : Str)) = false := by decide) : HasX P w K mg base 1 x [f] := by
  obtain ⟨C, fi, cda, cc, oc, kV, doc, pm, ct, ccl, cl, od, an, cdd, cld, osl, ccs, csl, cv, file, tf, qual, h1, h2, h3, h4, h5, h6, h7, h8, h9, h10, h11⟩ := F.ex
  refine ⟨C, fi, PySem.W.ksFn "__init__" qual (defArgs st) (defBody st) (defScope st) .none kV doc pm an (.ref cda) ct cc, ["self", f], hm C h1, h1, h2.oe, h3, h4, ?_, Binds.all (hbind qual [("__class__", cc)] kV doc pm an (.ref cda) ct), rfl⟩
  rw [hst] at h5 ⊢
  have v1 : Vis (defScope st) f := .inl (S.par f (by simp))
  have v0 : Vis (defScope st) "self" := .inl (S.par "self" (by simp))
  refine init_ok (k := 0) (ps := ["self", f]) (fin := finN C [f]) (ta := tCons (tVar 1) tNil) (t := tSt K [(f, 1)]) h5 h6 S h2 h7 h8 h9 h10 har rfl (fun A outer s H E => pa_cons (pv 1 rfl v1 hd hcd) pa_nil) ?_
    (fun A outer s H E => pss_cons (ps_ost (pv 0 rfl v0 rfl rfl) (pv 1 rfl v1 hd hcd)) pss_nil) ?_ (fun L => hev qual L fi cda cc) (fun L => by unfold interactive; rw [show (PySem.W.ksEnv qual (defScope st) L fi (.ref cda) cc).scope.kind = _ from S.kind]; rfl) (fun L => rfl)
  · intro a ws H Q hl q
    match ws, hl with
    | [w1], _ => exact ⟨w1, rfl, q⟩
  · intro a ws H D hl ha q
    match ws, hl with
    | [w1], _ =>
      refine tSt_ok (ws := []) h2.oe rfl [(f, 1)] [] H (fun p hp => by rw [List.mem_singleton] at hp; subst hp; exact h11 _ (by simp)) (fun p hp => by rw [List.mem_singleton] at hp; subst hp; exact ⟨w1, rfl⟩) (by simp) (.inl ⟨rfl, rfl, ha⟩) ?_
      intro vs H' e1 e2 _ e4
      match vs, e1 with
      | [v1], _ =>
        obtain ⟨v, z1, z2⟩ := e2 0 (f, 1) rfl
        cases z1
        cases z2
        obtain ⟨dx, n1, n2, g1, g2, g3⟩ := e4 (by simp)
        exact q _ H' ⟨rfl, dx, n1, n2, g1, by simpa using g2, g3⟩
theorem XFacts.has2 (F : XFacts P K x st [f, g]) (hm : ∀ C, clsAt K x C → mg x = some (.ref C)) (hst : defBody st = [.Expr (.Call (.Attribute (.Call (.Name "super" p0) [] [] p1) "__init__" p2) [.Name f p5, .Name g q6] [] p3) p4, .Assign [.Attribute (.Name "self" p6) f p7] (.Name f p8) p9, .Assign [.Attribute (.Name "self" q7) g q8] (.Name g q9) q5])
    (S : IScope ["self", f, g] (defScope st)) {q4 : Pos} (har : ((defArgs st).posonlyargs ++ (defArgs st).args).head? = some ⟨"self", none, q4⟩)
    (hbind : ∀ (qual : Str) (cl : List (Str × Addr)) (kV doc pm : Value) (an : Option Addr) (cdv ct : Value) (us : List Value), us.length = 3 → bindArgs (PySem.W.fnX "__init__" qual (defArgs st) (defBody st) (defScope st) cl .none kV doc pm an cdv ct) ⟨us, []⟩ = pure ([("self" : Str), f, g].zip us))
    (hev : ∀ (qual : Str) (L fi cda cc : Addr), ∃ pl : Sem Bool, eval (.Call (.Attribute (.Call (.Name "super" p0) [] [] p1) "__init__" p2) [.Name f p5, .Name g q6] [] p3) (PySem.W.ksEnv qual (defScope st) L fi (.ref cda) cc) = (do
      let ov ← attributeBase (.Call (.Name "super" p0) [] [] p1) "__init__" (PySem.W.ksEnv qual (defScope st) L fi (.ref cda) cc) (eval (.Call (.Name "super" p0) [] [] p1) (PySem.W.ksEnv qual (defScope st) L fi (.ref cda) cc))
      standAt p2.atName
      let (fm, first) ← holding [ov] (getMethod ov "__init__" pl)
      callWith p3 fm first (backTo p3 (starEach [.Name f p5, .Name g q6] (PySem.W.ksEnv qual (defScope st) L fi (.ref cda) cc))) []))
    (hd : (f == ("__debug__" : Str)) = false := by decide) (hcd : (f == ("__classdict__" : Str)) = false := by decide) (hd2 : (g == ("__debug__" : Str)) = false := by decide) (hcd2 : (g == ("__classdict__" : Str)) = false := by decide) : HasX P w K mg base 1 x [f, g] := by
  obtain ⟨C, fi, cda, cc, oc, kV, doc, pm, ct, ccl, cl, od, an, cdd, cld, osl, ccs, csl, cv, file, tf, qual, h1, h2, h3, h4, h5, h6, h7, h8, h9, h10, h11⟩ := F.ex
  refine ⟨C, fi, PySem.W.ksFn "__init__" qual (defArgs st) (defBody st) (defScope st) .none kV doc pm an (.ref cda) ct cc, ["self", f, g], hm C h1, h1, h2.oe, h3, h4, ?_, Binds.all (hbind qual [("__class__", cc)] kV doc pm an (.ref cda) ct), rfl⟩
  rw [hst] at h5 ⊢
  have v1 : Vis (defScope st) f := .inl (S.par f (by simp))
  have v2 : Vis (defScope st) g := .inl (S.par g (by simp))
  have v0 : Vis (defScope st) "self" := .inl (S.par "self" (by simp))
  refine init_ok (k := 0) (ps := ["self", f, g]) (fin := finN C [f, g]) (ta := tCons (tVar 1) (tCons (tVar 2) tNil)) (t := tSt K [(f, 1), (g, 2)]) h5 h6 S h2 h7 h8 h9 h10 har rfl (fun A outer s H E => pa_cons (pv 1 rfl v1 hd hcd) (pa_cons (pv 2 rfl v2 hd2 hcd2) pa_nil)) ?_
    (fun A outer s H E => pss_cons (ps_ost (pv 0 rfl v0 rfl rfl) (pv 1 rfl v1 hd hcd)) (pss_cons (ps_ost (pv 0 rfl v0 rfl rfl) (pv 2 rfl v2 hd2 hcd2)) pss_nil)) ?_ (fun L => hev qual L fi cda cc) (fun L => by unfold interactive; rw [show (PySem.W.ksEnv qual (defScope st) L fi (.ref cda) cc).scope.kind = _ from S.kind]; rfl) (fun L => rfl)
  · intro a ws H Q hl q
    match ws, hl with
    | [w1, w2], _ => exact ⟨w1, rfl, w2, rfl, q⟩
  · intro a ws H D hl ha q
    match ws, hl with
    | [w1, w2], _ =>
      refine tSt_ok (ws := []) h2.oe rfl [(f, 1), (g, 2)] [] H (fun p hp => ?_) (fun p hp => ?_) (by simp) (.inl ⟨rfl, rfl, ha⟩) ?_
      · rcases List.mem_cons.mp hp with e | e
        · subst e; exact h11 _ (by simp)
        · rw [List.mem_singleton] at e; subst e; exact h11 _ (by simp)
      · rcases List.mem_cons.mp hp with e | e
        · subst e; exact ⟨w1, rfl⟩
        · rw [List.mem_singleton] at e; subst e; exact ⟨w2, rfl⟩
      intro vs H' e1 e2 _ e4
      match vs, e1 with
      | [v1, v2], _ =>
        obtain ⟨v, z1, z2⟩ := e2 0 (f, 1) rfl
        cases z1
        cases z2
        obtain ⟨v, z1, z2⟩ := e2 1 (g, 2) rfl
        cases z1
        cases z2
        obtain ⟨dx, n1, n2, g1, g2, g3⟩ := e4 (by simp)
        exact q _ H' ⟨rfl, dx, n1, n2, g1, by simpa using g2, g3⟩
end
end L2.DL

namespace L2.DL
open PySem PySem.Spec PyProof.Rows PySem.Calls
open LamX (CodeO TabS Tabs ExtN TabB lamEnv lamCx LamS GivesTo tLam pe_lamcall)

/-! ## tables of code objects grow, all else stays -/
def ntb (o : HO) : Prop := ∀ ps, o ≠ .tbl ps
theorem plain_ntb {o : HO} (h : plainO o = true) : ntb o := fun ps z => by subst z; cases h
section
variable {K : PySem.W.Frag} {M : Addr → Prop} {H H' : Hp}
theorem sqL_ext {a : Addr} {xs : List V} (e : ExtN H H') (h : SqL K H a xs) : SqL K H' a xs := by
  rcases h with (h | ⟨o, h⟩) | h
  · exact .inl (.inl (e _ _ h fun _ z => by cases z))
  · exact .inl (.inr ⟨o, e _ _ h fun _ z => by cases z⟩)
  · exact .inr h
theorem sqT_ext {a : Addr} {xs : List V} (e : ExtN H H') (h : SqT K H a xs) : SqT K H' a xs := by
  rcases h with (h | ⟨o, h⟩) | h
  · exact .inl (.inl (e _ _ h fun _ z => by cases z))
  · exact .inl (.inr ⟨o, e _ _ h fun _ z => by cases z⟩)
  · exact .inr h
mutual
theorem Rp.extN (e : ExtN H H') : ∀ {v : V} {d : D}, Rp K M H v d → Rp K M H' v d
  | _, _, .non => .non
  | _, _, .bl b => .bl b
  | _, _, .int i => .int i
  | _, _, .str x => .str x
  | _, _, .lst n q r => .lst n (sqL_ext e q) (RpA.extN e r)
  | _, _, .tup n q r => .tup n (sqT_ext e q) (RpA.extN e r)
  | _, _, .dicK n q r => .dicK n (e _ _ q fun _ z => by cases z) (RpK.extN e r)
theorem RpA.extN (e : ExtN H H') : ∀ {vs : List V} {ds : List D}, RpA K M H vs ds → RpA K M H' vs ds
  | _, _, .nil => .nil
  | _, _, .cons h1 h2 => .cons (Rp.extN e h1) (RpA.extN e h2)
theorem RpK.extN (e : ExtN H H') : ∀ {vs : List (D × V)} {ds : List (D × D)}, RpK K M H vs ds → RpK K M H' vs ds
  | _, _, .nil => .nil
  | _, _, .cons h1 h2 => .cons (Rp.extN e h1) (RpK.extN e h2)
end
theorem RpO.extN (e : ExtN H H') {u : HO} {o : OB} (h : RpO K M H u o) : RpO K M H' u o := by
  cases h with
  | lst r => exact .lst (r.extN e)
  | dicK r => exact .dicK (r.extN e)
  | set h1 h2 h3 => exact .set h1 h2 h3
theorem XRep.extN (e : ExtN H H') {cls : Value} {d : Option Addr} {c : Str} {fs : List (Str × D)} (h : XRep K M H cls d c fs) : XRep K M H' cls d c fs := by
  obtain ⟨C, h1, h2, h3 | ⟨dd, vs, l, h3, h4, h5, h7, h6⟩⟩ := h
  · exact ⟨C, h1, h2, .inl h3⟩
  · exact ⟨C, h1, h2, .inr ⟨dd, vs, l, h3, h4, e _ _ h5 (fun _ z => by cases z), h7, h6.extN e⟩⟩
end
/-- of law's frame: the tables that stand -/
def knT (T : List (Addr × Str)) : Kn := ⟨fun M fx H => Tabs T H ∧ (∀ a o, fx a o → ntb o) ∧ ∀ a, M a → ∃ o, H a = some o ∧ ntb o, fun M M' fx fx' H H' hM hx hH ⟨h1, h2, h3⟩ => by
  have np : ∀ a o, H a = some o → plainO o = false → H' a = some o := fun a o e hp => by
    rcases hH a o e with z | ⟨z, _⟩
    · exact z
    · rw [hp] at z; cases z
  refine ⟨fun p hp => ?_, fun a o z => (hx a o z).elim (h2 a o) plain_ntb, fun a z => ?_⟩
  · obtain ⟨ps, e1, e2, e3⟩ := h1 p hp
    refine ⟨ps, np _ _ e1 rfl, e2, fun pos cv hc => ?_⟩
    obtain ⟨c, g1, g2⟩ := e3 pos cv hc
    exact ⟨c, g1, np _ _ g2 rfl⟩
  · rcases hM a z with z | ⟨o, e, hp⟩
    · obtain ⟨o, e, n⟩ := h3 a z
      rcases hH a o e with q | ⟨_, o', e', hp⟩
      · exact ⟨o, q, n⟩
      · exact ⟨o', e', plain_ntb hp⟩
    · exact ⟨o, e, plain_ntb hp⟩⟩
theorem Rel.extN {K : PySem.W.Frag} {J : Jx} {G : Gh} {ρ : DEnv} {σ : St} {H H' : Hp} {T : List (Addr × Str)} (R : Rel K J G ρ σ H) (hk : J.kn = knT T) (e : ExtN H H') (kf : KF K H') (hT : Tabs T H') : Rel K J G ρ σ H' := by
  have kn := R.kn
  rw [hk] at kn
  obtain ⟨k1, k2, k3⟩ := kn
  have at_ : ∀ a, G.M a → ∃ o, H' a = some o ∧ ntb o := fun a z => by
    obtain ⟨o, h1, h2⟩ := k3 a z
    exact ⟨o, e _ _ h1 h2, h2⟩
  refine ⟨R.len, kf, fun a z q => ?_, fun i d h => ?_, fun i b o h => ?_, R.sep, fun v d h => (R.held v d h).extN e, fun a o h => e _ _ (R.keep a o h) (k2 a o h), fun i c fs h => ?_, R.raw, ?_⟩
  · obtain ⟨o, h1, _⟩ := at_ a z
    rw [q] at h1
    cases h1
  · obtain ⟨v, h1, h2⟩ := R.dat i d h
    exact ⟨v, h1, h2.extN e⟩
  · obtain ⟨a, u, h1, h2, h3, h4⟩ := R.own i b o h
    exact ⟨a, u, h1, e _ _ h2 (plain_ntb h3.plain), h3.extN e, h4⟩
  · obtain ⟨a, cls, d, h1, h2, h3⟩ := R.exn i c fs h
    exact ⟨a, cls, d, h1, h2, h3.extN e⟩
  · rw [hk]
    exact ⟨hT, k2, at_⟩
/-! ## the lambda's own view: data alone -/
def only1 : Option Sl → Option Sl
  | some (.dat d) => some (.dat d)
  | _ => none
def onlyD (ρ : DEnv) : DEnv := ρ.map only1
theorem onlyD_get {ρ : DEnv} {i : Nat} {s : Sl} (h : (onlyD ρ)[i]? = some (some s)) : ∃ d, s = .dat d ∧ ρ[i]? = some (some (.dat d)) := by
  unfold onlyD at h
  rw [List.getElem?_map] at h
  cases e : ρ[i]? with
  | none => rw [e] at h; cases h
  | some x =>
    rw [e] at h
    cases x with
    | none => cases h
    | some y =>
      cases y with
      | dat d => cases h; exact ⟨d, rfl, rfl⟩
      | _ => cases h
theorem Rel.only {K : PySem.W.Frag} {J : Jx} {G : Gh} {ρ : DEnv} {σ : St} {H : Hp} (R : Rel K J G ρ σ H) (E : XK) (fx : Addr → HO → Prop) (hfx : ∀ a o, fx a o → H a = some o) : Rel K (JE E) ⟨MM G ρ σ, fun _ => False, fx, fun _ _ => False⟩ (onlyD ρ) σ H := by
  have no : ∀ {i b o}, (onlyD ρ)[i]? ≠ some (some (Sl.ob b o)) := fun {i b o} h => by
    obtain ⟨d, e, _⟩ := onlyD_get h
    cases e
  have mm : ∀ a, MM ⟨MM G ρ σ, fun _ => False, fx, fun _ _ => False⟩ (onlyD ρ) σ a → MM G ρ σ a := fun a z => z.elim (fun q => q) fun ⟨i, b, o, h, _⟩ => absurd h no
  refine ⟨by unfold onlyD; rw [List.length_map]; exact R.len, R.kf, R.domM, fun i d h => ?_, fun i b o h => absurd h no, fun i j a ⟨b, o, h, _⟩ => absurd h no, fun v d h => h.elim, hfx, fun i c fs h => ?_, fun i h => ?_, True.intro⟩
  · obtain ⟨d', e, h⟩ := onlyD_get h
    cases e
    obtain ⟨v, h1, h2⟩ := R.dat i _ h
    exact ⟨v, h1, h2.weak mm⟩
  · obtain ⟨d', e, h⟩ := onlyD_get h
    cases e
  · obtain ⟨d', e, h⟩ := onlyD_get h
    cases e

/-! ## x(lambda: e): the helper x makes q of what e comes to -/
def resW (K : PySem.W.Frag) (M : Addr → Prop) (H : Hp) (r : Res D) (Q : VK) (E : XK) : Prop := Out (wC K M H E) r fun d => ∀ v H', Same H H' → KF K H' → Rp K M H' v d → Q v H'
def TTq (K : PySem.W.Frag) (q : Res D → Res D) : (XK → Hp → VK → Prop) → Hp → VK → Prop := fun tl H Q => ∃ (r : Res D) (M : Addr → Prop), (∀ a, M a → H a ≠ none) ∧
  (∀ (E : XK) (Q' : VK), KF K H → resW K M H r Q' E → tl E H Q') ∧ ∃ d, q r = .ok d ∧ ∀ v H', Same H H' → KF K H' → Rp K M H' v d → Q v H'
def lamR (x : Res (D × DEnv)) : Res (Res D) := match x with
  | .ok p => .ok (.ok p.1)
  | .error (.exc c fs _) => .ok (.error (.exc c fs []))
  | .error .stuck => stuck
def mLam (q : Res D → Res D) (fb : EvF) : EvF := fun ρ => bnd (lamR (fb (onlyD ρ))) fun r => bnd (pur (q r)) fun d => .ok (d, ρ)
theorem takes_lam {X : Cx} {A : Around} {outer : List Env} {s : Shared} {H : Hp} {E : XK} {scope : Scope} {f c' : Addr} : L2N.Takes (lamCx X A outer s H E scope f c') (JE E).W := fun u t x => by
  refine takes_of (X := lamCx X A outer s H E scope f c') (E := E) rfl rfl rfl rfl u t ?_
  obtain ⟨a, B, sI, pins, σ, H2, cls, d, e, I, nb, up, sky, na, os, ag, w⟩ := x
  refine ⟨a, B, sI, pins, σ, H2, cls, d, e, I, nb, up, ?_, na, os, ag, w⟩
  rcases sky with ⟨g1, g2, g3, oe, vs, g4, g5, g6⟩ | ⟨g1, g2, g3, oe, vs, T, oT, ts, g4, g5, g6⟩ | ⟨g1, g2, g3, oe, vs, T, oT, ts, g4, g5, g6⟩
  · exact .inl ⟨g1, g2, g3, oe, vs, g4, g5.zc, g6⟩
  · exact .inr (.inl ⟨g1, g2, g3, oe, vs, T, oT, ts, g4, g5.zc, g6⟩)
  · exact .inr (.inr ⟨g1, g2, g3, oe, vs, T, oT, ts, g4, g5.zc, g6⟩)
section
variable {X : Cx} {J : Jx}
theorem de_lam {T : List (Addr × Str)} {q : Res D → Res D} {fb : EvF} {x a : Str} {st : Stmt} {g c P : Addr} {fd : FuncData} {k : Nat} {Ng : List Str} {params : Arguments} {body : Expr} {scope : Scope} {p lpos pos : Pos} (hk : J.kn = knT T) (hm : X.mg x = some (.ref g)) (F : Fun X.K x x st g fd) (hb : L2.Binds X.K fd [a] [])
    (Sg : FnScope Ng [a] (defScope st)) (hNg : Ng[0]? = some a) (hva : Vis (defScope st) a) (hG : ∀ cdv, GivesTo X Ng x (defScope st) g cdv (defBody st) a (X.env.qual ++ "<lambda>") (TTq X.K q))
    (TB : TabB X.base X.mg c P) (hcode : X.env.code = .ref c) (hmT : (P, X.env.qual ++ "<lambda>") ∈ T) (hu : ∀ p ∈ T, p.1 = P → p.2 = X.env.qual ++ "<lambda>") (hr : Room (k + 2) X.A) (L : LamS X.env.scope scope) (hdef : defaultsOf params X.env = ([], []))
    (hbind : ∀ (q : Str) (cl : List (Str × Addr)) (pm cv ctv : Value), bindArgs (PySem.W.kla_fn "<lambda>" q params body scope cl pm cv ctv) ⟨[], []⟩ = pure [])
    (hbody : ∀ (A : Around) (outer : List Env) (s : Shared) (H : Hp) (E : XK) (f c' : Addr), Room k (A.deeper (lamEnv X scope s.heap.objs.size f c')) → L2N.Takes (lamCx X A outer s H E scope f c') (JE E).W → PE (lamCx X A outer s H E scope f c') body (tE X.K (JE E) fb))
    (hg : Gl X x := by rfl) (hdb : (x == ("__debug__" : Str)) = false := by decide) (hd : (a == ("__debug__" : Str)) = false := by decide) (hcd : (a == ("__classdict__" : Str)) = false := by decide) :
    PE X (.Call (.Name x p) [.Lambda params body scope lpos] [] pos) (tE X.K J (mLam q fb)) := by
  obtain ⟨oc, od, kV, doc, pm, an, cdv, ct, osl, rfl, lk, hcg⟩ := id F.ex
  refine PE.by (pe_lamcall (t := fun E => tE X.K (JE E) fb) hg hm F.kp lk hcg hb Sg hNg hva (hG cdv) TB hcode hmT hu hr L hdef hbind (fun A outer s H E f c' hr2 => hbody A outer s H E f c' hr2 takes_lam) hdb hd hcd) ?_
  rintro σ H Q ⟨G, ρ, R, h⟩
  have kn := R.kn
  rw [hk] at kn
  refine ⟨kn.1, fun H1 eN T1 => ?_⟩
  have dom1 : ∀ b, MM G ρ σ b → H1 b ≠ none := fun b z => by
    rcases z with z | ⟨i, bb, o, h1, h2⟩
    · obtain ⟨o, e, n⟩ := kn.2.2 b z
      rw [eN _ _ e n]
      exact fun z => nomatch z
    · obtain ⟨a', u, e1, e2, e3, _⟩ := R.own i bb o h1
      rw [h2] at e1
      cases e1
      rw [eN _ _ e2 (plain_ntb e3.plain)]
      exact fun z => nomatch z
  have back : ∀ {H2}, Same H1 H2 → KF X.K H2 → Rel X.K J G ρ σ H2 := fun {H2} s kf => R.extN hk (eN.trans fun b o e _ => s b o e) kf (T1.ext fun b o e => s b o e)
  unfold mLam at h
  cases hf : fb (onlyD ρ) with
  | ok pr =>
    rw [hf] at h
    obtain ⟨d, hq, h⟩ := Out.pur h
    refine ⟨.ok pr.1, MM G ρ σ, dom1, fun E Q' kf hw => ?_, d, hq, fun v H' s kf r kf' => h.ok v H' (back s kf) r⟩
    have R1 := back (fun b o e => e) kf
    refine ⟨_, _, R1.only E (fun a o => H1 a = some o) (fun _ _ z => z), ?_⟩
    rw [hf]
    exact fun v H' Q1 r => hw v H' (fun a o e => Q1.keep a o e) Q1.kf (r.weak fun b z => .inl z)
  | error e =>
    rw [hf] at h
    cases e with
    | stuck => exact h.elim
    | exc cx fs ρ' =>
      obtain ⟨d, hq, h⟩ := Out.pur h
      refine ⟨.error (.exc cx fs []), MM G ρ σ, dom1, fun E Q' kf hw => ?_, d, hq, fun v H' s kf r kf' => h.ok v H' (back s kf) r⟩
      have R1 := back (fun b o e => e) kf
      refine ⟨_, _, R1.only E (fun a o => H1 a = some o) (fun _ _ z => z), ?_⟩
      rw [hf]
      exact fun cls dd H' Q1 z => hw cls dd H' (fun a o e => Q1.keep a o e) Q1.kf (z.weak fun b z => .inl z)
end

/-! ## helpers that call what they get -/
theorem takes_len {X : Cx} {W : WX} (t : Takes X W) : Takes X (fun cls d σ H => σ.length = X.N.length → W cls d σ H) := fun u s' ⟨a, B, sI, pins, σ, H, cls, d, e, I, nb, up, sky, na, os, ag, w⟩ => t u s' ⟨a, B, sI, pins, σ, H, cls, d, e, I, nb, up, sky, na, os, ag, w I.len⟩
def J00 : Jx := ⟨fun _ _ _ _ => False, none, none, Kn0⟩
theorem rel_none {K : PySem.W.Frag} {M : Addr → Prop} {H : Hp} {σ : St} (kf : KF K H) (hM : ∀ a, M a → H a ≠ none) (fx : Addr → HO → Prop) (hfx : ∀ a o, fx a o → H a = some o) : Rel K J00 ⟨M, fun _ => False, fx, fun _ _ => False⟩ (List.replicate σ.length none) σ H := by
  have no : ∀ {i s}, (List.replicate σ.length (none : Option Sl))[i]? ≠ some (some s) := fun {i s} h => by
    obtain ⟨_, h⟩ := List.getElem?_eq_some_iff.mp h
    rw [List.getElem_replicate] at h
    cases h
  exact ⟨List.length_replicate .., kf, hM, fun i d h => absurd h no, fun i b o h => absurd h no, fun i j a ⟨b, o, h, _⟩ => absurd h no, fun v d h => h.elim, hfx, fun i c fs h => absurd h no, fun i h => absurd h no, True.intro⟩
/-- try: what is made (k) of act()'s value / except clauses -/
def qHelp (k : D → Res D) (l : List Hd) (n : Nat) : Res D → Res D
  | .ok d => k d
  | .error (.exc c fs _) => bnd (pur (mHds c fs l (List.replicate n none))) fnEnd
  | .error .stuck => stuck
section
variable {X : Cx} {Ng : List Str} {x a q : Str} {sg : Scope} {g : Addr} {cdg : Value} {hd0 : ExceptHandler} {hds : List ExceptHandler} {h0 : Hd} {l : List Hd} {p1 p2 p3 p4 p5 p6 p8 : Pos}
/-- the context of a helper's body -/
abbrev cxH (X : Cx) (Ng : List Str) (x : Str) (sg : Scope) (g : Addr) (cdg : Value) (s : Shared) (H : Hp) : Cx := (cxOf C8.CX0 X.prog X.w X.K X.mg X.base Ng x sg g cdg X.A X.stack s H C8.E0).nox
theorem gives_of {body : List Stmt} {k : D → Res D} {fin : VK → VK} {n : Nat} (hN : Ng.Nodup) (hn : Ng.length = n) (h0' : ∀ f : Addr, (L2.start Ng [V.ref f])[0]? = some (some (V.ref f)))
    (hh : ∀ (s : Shared) (H : Hp), ∃ L, HdsD (cxH X Ng x sg g cdg s H) J00 (hd0 :: hds) (h0 :: l) L)
    (hbody : ∀ (s : Shared) (H : Hp) (pn : List (Addr × Obj)) (xe : Value → Shared → Prop) (tact : TE), (∀ p1 p2, PE ((cxH X Ng x sg g cdg s H).tr pn xe) (.Call (.Name a p1) [] [] p2) tact) →
      PSs ((cxH X Ng x sg g cdg s H).tr pn xe) body (fun D σ H => tact σ H fun v H1 => fin D.rt v H1))
    (hfin : ∀ (M : Addr → Prop) (H1 : Hp) (v : V) (d d' : D) (Q : VK), Rp X.K M H1 v d → (∀ a, M a → H1 a ≠ none) → k d = .ok d' → (∀ w H2, Same H1 H2 → Rp X.K M H2 w d' → Q w H2) → fin Q v H1) :
    GivesTo X Ng x sg g cdg [.Try body (hd0 :: hds) [] [] p8] a q (TTq X.K (qHelp k (h0 :: l) n)) := by
  intro f c' s H Q tl act hc h
  obtain ⟨r, M, hM, htl, d1, hq1, hq2⟩ := h
  obtain ⟨L, hL⟩ := hh s H
  refine ⟨_, PSs.pre (pss_one (ps_try_mix2 (X := cxH X Ng x sg g cdg s H) (Wout := fun _ _ _ _ => False) (tb := fun W D σ H0 => ∃ Ech : XK, (∀ cls d σ' H', Ech cls d H' → σ'.length = Ng.length → W cls d σ' H') ∧ σ[0]? = some (some (.ref f)) ∧ H0 c' = some (CodeO c' q) ∧ tl Ech H0 (fun v H1 => fin (fun w H2 => KF X.K H2 → D.rt w H2) v H1))
    rfl rfl hN LamX.takes0 (fun W pn xe tk _ => ?_) hL.m)), fun kf => ?_⟩
  · refine PSs.by (t := fun D σ H0 => ∃ Ech : XK, (∀ cls d σ' H', Ech cls d H' → σ'.length = Ng.length → W cls d σ' H') ∧ σ[0]? = some (some (.ref f)) ∧ H0 c' = some (CodeO c' q) ∧ tl Ech H0 (fun v H1 => fin D.rt v H1)) ?_ (fun E σ H0 h => h)
    constructor
    rintro pins s' σ H0 D I ⟨Ech, hW, h1, h2, h3⟩
    have tk' : Takes ((cxH X Ng x sg g cdg s H).tr pn xe) (fun cls d σ' H' => σ'.length = Ng.length → W cls d σ' H') := takes_len (X := (cxH X Ng x sg g cdg s H).tr pn xe) tk
    exact (hbody s H pn xe _ fun p1 p2 => act (fun cls d σ' H' => σ'.length = Ng.length → W cls d σ' H') pn xe Ech p1 p2 tk' hW).run pins s' σ H0 D I ⟨h1, h2, h3⟩
  · have fin_ok : ∀ (d : D) (H1 : Hp) (v : V), r = .ok d → Same H H1 → Rp X.K M H1 v d → fin (fun w H2 => KF X.K H2 → Q w H2) v H1 := fun d H1 v e s1 rv => by
      subst e
      exact hfin M H1 v d d1 _ rv (fun a z e => hM a z (by
        cases q : H a with
        | none => rfl
        | some o => rw [s1 a o q] at e; cases e)) hq1 fun w H2 s2 rw' kf2 => hq2 w H2 (fun a o e => s2 a o (s1 a o e)) kf2 rw'
    cases r with
    | ok d => exact ⟨fun _ _ _ => False, fun _ _ _ _ z => z.elim, h0' f, hc, htl _ _ kf fun v H1 s1 kf1 rv => fin_ok d H1 v rfl s1 rv⟩
    | error e =>
      cases e with
      | stuck => cases hq1
      | exc c fs ρx =>
        refine ⟨fun cls dd H' => Same H H' ∧ KF X.K H' ∧ XRep X.K M H' cls dd c fs, fun cls dd σ' H' hE hl => ?_, h0' f, hc, htl _ _ kf fun cls dd H' s1 kf1 xr => ⟨s1, kf1, xr⟩⟩
        obtain ⟨s1, kf1, xr⟩ := hE
        have hM' : ∀ a, M a → H' a ≠ none := fun a z e => hM a z (by
          cases q : H a with
          | none => rfl
          | some o => rw [s1 a o q] at e; cases e)
        have R := rel_none (σ := σ') kf1 hM' (fun a o => H a = some o) (fun a o e => s1 a o e)
        rw [hl, hn] at R
        have nown : ∀ b, MM ⟨M, fun _ => False, fun a o => H a = some o, fun _ _ => False⟩ (List.replicate n none) σ' b → M b := fun b z => z.elim (fun z => z) fun ⟨i, bb, o, g1, _⟩ => by
          obtain ⟨_, g1⟩ := List.getElem?_eq_some_iff.mp g1
          rw [List.getElem_replicate] at g1
          cases g1
        refine hds_run (X := cxH X Ng x sg g cdg s H) (E := { nx := fun _ H' => Q .non H', rt := fun w H2 => Q w H2, bk := fun _ _ => False, ct := fun _ _ => False }) R (xr.weak nown) hL ?_
        unfold qHelp at hq1
        dsimp only at hq1
        obtain ⟨⟨ctl, ρ'⟩, e1, e2⟩ := bnd_inv hq1
        have e3 : mHds c fs (h0 :: l) (List.replicate n none) = .ok (ctl, ρ') := by
          cases hm : mHds c fs (h0 :: l) (List.replicate n none) with
          | ok p => rw [hm] at e1; exact e1
          | error e => rw [hm] at e1; cases e1
        rw [e3]
        cases ctl with
        | nx => cases e2; exact fun σ2 H2 Q2 => hq2 _ H2 (fun a o e => Q2.keep a o e) Q2.kf .non
        | bk => cases e2
        | ct => cases e2
        | rt d2 => cases e2; exact fun σ2 v H2 Q2 rv => hq2 v H2 (fun a o e => Q2.keep a o e) Q2.kf (rv.weak fun b z => .inl z)
/-- try: return (w, act()) -/
def kTold (w : Str) (d : D) : Res D := .ok (.tuple [.str w, d])
theorem gives_told {w : Str} {j n x1 : Nat} (hN : Ng.Nodup) (hn : Ng.length = n) (h0' : ∀ f : Addr, (L2.start Ng [V.ref f])[0]? = some (some (V.ref f)))
    (hh : ∀ (s : Shared) (H : Hp), ∃ L, HdsD (cxH X Ng x sg g cdg s H) J00 (hd0 :: hds) (h0 :: l) L) :
    GivesTo X Ng x sg g cdg [.Try [.Return (some (.Tuple [.Constant (.str w) j p5, .Call (.Name a p1) [] [] p2] x1 p4)) p3] (hd0 :: hds) [] [] p8] a q (TTq X.K (qHelp (kTold w) (h0 :: l) n)) := by
  refine gives_of (fin := fun Q v H1 => [V.str w, v].length ≤ sizeLine ∧ ∀ p, H1 p = none → Q (.ref p) (upd H1 p (.tup [.str w, v]))) hN hn h0' hh (fun s H pn xe tact hp => ?_) (fun M H1 v d d' Q rv hM e hQ => ⟨k1000 (show 2 ≤ 1000 by decide), fun p hp => ?_⟩)
  · exact pss_one (ps_ret (pe_tup (pa_cons pe_str (pa_cons (hp p1 p2) pa_nil))))
  · cases e
    have sm : Same H1 (upd H1 p (.tup [.str w, v])) := Same.upd hp
    exact hQ _ _ sm (.tup (fun z => hM p z hp) (SqT.of upd_same) (.cons (.str w) (.cons (rv.same sm) .nil)))
/-- try: act(); return False -/
def kFalse (_ : D) : Res D := .ok (.bool false)
theorem gives_false {j n : Nat} (hN : Ng.Nodup) (hn : Ng.length = n) (h0' : ∀ f : Addr, (L2.start Ng [V.ref f])[0]? = some (some (V.ref f)))
    (hh : ∀ (s : Shared) (H : Hp), ∃ L, HdsD (cxH X Ng x sg g cdg s H) J00 (hd0 :: hds) (h0 :: l) L) :
    GivesTo X Ng x sg g cdg [.Try [.Expr (.Call (.Name a p1) [] [] p2) p3, .Return (some (.Constant (.bool false) j p5)) p4] (hd0 :: hds) [] [] p8] a q (TTq X.K (qHelp kFalse (h0 :: l) n)) := by
  refine gives_of (fin := fun Q v H1 => Q (.bl false) H1) hN hn h0' hh (fun s H pn xe tact hp => ?_) (fun M H1 v d d' Q rv hM e hQ => ?_)
  · exact pss_cons (ps_expr (hp p1 p2)) (pss_one (ps_ret pe_bl))
  · cases e
    exact hQ _ _ (fun _ _ e => e) (.bl false)
end
end L2.DL

namespace L2.DL
open PySem PySem.Spec PyProof.Rows PySem.Calls
open LamX (TabB)

/-! ## law is called, from outside: nothing stands around it -/
/-- what law's call promises at the outside: cs are law's code object and its table (if lambdas are made) -/
def LawRun (P : Program) (w : World) (K : PySem.W.Frag) (mg : Str → Option Value) (base : Heap) (fa : Addr) (cs : List (Addr × Addr)) : Prop :=
  ∀ (s : Shared) (H : Hp) (a : Addr) (ns : List Int), Env0 P w K mg base callerA [] s H → ns.length ≤ 63 → SqL K H a (ns.map V.int) → (∀ p ∈ cs, H p.2 = some (.tbl #[])) →
    codeAny (model P w) callerA (.call (.ref fa) ⟨[.ref a], []⟩) (CR (L2N.CX P w) [] P w H s (fun v _ => v = .bl true) fun _ _ _ => False) s
section
variable {P : Program} {w : World} {K : PySem.W.Frag} {mg mb : Str → Option Value} {fa a : Addr} {cs : List (Addr × Addr)} {s₁ : Shared} {vs : List Value} {ns : List Int}
/-- what is tracked at law's entry: the script (unless it is written) and the tables -/
noncomputable def H1 (K : PySem.W.Frag) (a : Addr) (o : Obj) (xs : List V) (cs : List (Addr × Addr)) : Hp := fun b =>
  open Classical in if b = a ∧ K.lookup a = none then some (.frz o (.lst xs)) else if ∃ p ∈ cs, p.2 = b then some (.tbl #[]) else none
theorem H1_a {o : Obj} {xs : List V} (h : K.lookup a = none) : H1 K a o xs cs a = some (.frz o (.lst xs)) := if_pos ⟨rfl, h⟩
theorem H1_t {o : Obj} {xs : List V} {p : Addr × Addr} (hp : p ∈ cs) (ne : p.2 ≠ a) : H1 K a o xs cs p.2 = some (.tbl #[]) := by
  unfold H1
  rw [if_neg fun z => ne z.1, if_pos ⟨p, hp, rfl⟩]
theorem H1_inv {o : Obj} {xs : List V} {b : Addr} {u : HO} (h : H1 K a o xs cs b = some u) : (b = a ∧ K.lookup a = none ∧ u = .frz o (.lst xs)) ∨ ∃ p ∈ cs, p.2 = b ∧ u = .tbl #[] := by
  unfold H1 at h
  split at h
  · rename_i q
    cases h
    exact .inl ⟨q.1, q.2, rfl⟩
  · split at h
    · rename_i q
      obtain ⟨p, hp, e⟩ := q
      cases h
      exact .inr ⟨p, hp, e, rfl⟩
    · cases h
theorem law_out (KX : K.In s₁.heap) (hns : s₁.heap.Ns mainGlobals mg) (hb : s₁.heap.Ns builtinsNs mb) (hbb : ∀ x : Str, x ≠ "__name__" → mb x = bootBuiltins x) (hlim : s₁.heap.NoLimit) (hg : s₁.gens = #[])
    (hT : ∀ p ∈ cs, PySem.W.CodeHd s₁.heap p.1 p.2 ∧ s₁.heap.get? p.2 = some { cls := .none, data := .fields #[] } ∧ K.lookup p.2 = none)
    (hbm : ∃ (bm : Addr) (ob : Obj), mg "__builtins__" = some (.ref bm) ∧ bm ≠ builtinsNs ∧ s₁.heap.get? bm = some ob ∧ ob.cls = .type "module" ∧ ob.dict = some builtinsNs ∧ ob.data = .plain)
    (ha : s₁.heap.get? a = some { cls := .type "list", data := .seq vs.toArray }) (hi : IntsAre vs ns) (hl : ns.length ≤ 63)
    (F : ∀ base : Heap, K.In base → base.Ns mainGlobals mg → (∀ p ∈ cs, TabB base mg p.1 p.2) → LawRun P w K mg base fa cs) :
    codeAny (model P w) callerA (.call (.ref fa) ⟨[.ref a], []⟩) (fun r s' => r = .ok (.ret (.bool true)) ∧ OldK s₁.heap s'.heap ∧ s'.os = s₁.os ∧ AllBare s'.gens) s₁ := by
  have big : ns.length ≤ sizeLine := Nat.le_trans hl (by rw [sizeLine_eq]; omega)
  obtain ⟨H, eH⟩ : ∃ H, H = H1 K a { cls := .type "list", data := .seq vs.toArray } (ns.map V.int) cs := ⟨_, rfl⟩
  have nta : ∀ p ∈ cs, p.2 ≠ a := by
    intro p hp z
    have q := (hT p hp).2.1
    rw [z, ha] at q
    cases q
  have inv : ∀ {b : Addr} {u : HO}, H b = some u → (b = a ∧ K.lookup a = none ∧ u = .frz { cls := .type "list", data := .seq vs.toArray } (.lst (ns.map V.int))) ∨ ∃ p ∈ cs, p.2 = b ∧ u = .tbl #[] := by
    intro b u h
    rw [eH] at h
    exact H1_inv h
  -- an object that is neither the script's nor a table's is not tracked
  have free : ∀ {b : Addr} {o : Obj}, s₁.heap.get? b = some o → (∀ xs n, o.data ≠ .seq xs n) → o.data ≠ .fields #[] → H b = none := by
    intro b o e n1 n2
    cases q : H b with
    | none => rfl
    | some u =>
      rcases inv q with ⟨z, _⟩ | ⟨p, hp, z, _⟩
      · rw [z, ha] at e
        cases e
        exact absurd rfl (n1 _ _)
      · rw [← z, (hT p hp).2.1] at e
        cases e
        exact absurd rfl n2
  have low : ∀ {b : Addr} {o : Obj}, s₁.heap.get? b = some o → H b = none → (hidT s₁.heap H).get? b = some o := hidT_get
  have ns' : ∀ {b : Addr} {m : Str → Option Value}, s₁.heap.Ns b m → (hidT s₁.heap H).Ns b m := by
    rintro b m ⟨o, es, ep, e, d, r⟩
    refine ⟨o, es, ep, low e (free e ?_ ?_), d, r⟩
    · intro xs n z; rw [d] at z; cases z
    · intro z; rw [d] at z; cases z
  have kin : K.In (hidT s₁.heap H) := by
    intro b o e
    refine low (KX b o e) ?_
    cases q : H b with
    | none => rfl
    | some u =>
      rcases inv q with ⟨z, hk, _⟩ | ⟨p, hp, z, _⟩
      · rw [z, hk] at e; cases e
      · rw [← z, (hT p hp).2.2] at e; cases e
  have hM : Mod K mg (hidT s₁.heap H) := by
    obtain ⟨mc, c1, c2⟩ := hlim
    exact ⟨kin, ns' hns, ⟨mb, ns' hb, hbb⟩, ⟨mc, ns' c1, c2⟩⟩
  have tb : ∀ p ∈ cs, TabB (hidT s₁.heap H) mg p.1 p.2 := by
    intro p hp
    obtain ⟨C, tp, kp⟩ := hT p hp
    obtain ⟨bm, ob, m1, m2, m3, m4, m5, m6⟩ := hbm
    have main_ne : ∀ {b : Addr} {o : Obj}, s₁.heap.get? b = some o → (∀ es ep, o.data ≠ .dict es ep) → b ≠ mainGlobals := by
      intro b o e n z
      obtain ⟨o2, es, ep, e2, d2, _⟩ := hns
      rw [z, e2] at e
      cases e
      exact n _ _ d2
    refine ⟨?_, ⟨bm, ob, m1, m2, main_ne m3 fun es ep z => ?_, fun z => ?_, low m3 (free m3 (fun xs n z => ?_) fun z => ?_), m4, m5, m6⟩, fun z => main_ne tp (fun es ep z => ?_) z.symm⟩
    · obtain ⟨o, us, file, tf, fl, tg, inF, tx, tt, e1, r1, r2, r3, rr⟩ := C
      refine ⟨o, us, file, tf, fl, tg, inF, tx, tt, low e1 (free e1 (fun xs n z => ?_) fun z => ?_), r1, r2, r3, rr⟩
      · rw [r2] at z; cases z
      · rw [r2] at z; cases z; simp at r3
    · rw [m6] at z; cases z
    · rw [z, tp] at m3; cases m3; cases m6
    · rw [m6] at z; cases z
    · rw [m6] at z; cases z
    · cases z
  have hok : HOk P w H s₁.heap := by
    intro b u z
    rcases inv z with ⟨e, _, eu⟩ | ⟨p, hp, e, eu⟩
    · subst eu
      rw [e]
      exact ⟨ha, by rw [List.length_map]; exact big, vs, _, vals_ints hi, ha⟩
    · subst eu
      rw [← e]
      exact (hT p hp).2.1
  have e0 : Env0 P w K mg (hidT s₁.heap H) callerA [] s₁ H := ⟨rfl, hM, fun _ _ => of_hidT, Nat.le_of_eq (hidT_size _ _), trivial, fun b hb => absurd hb (by unfold frs; simp), hok, .of_eq hg⟩
  have sq : SqL K H a (ns.map V.int) := by
    cases hk : K.lookup a with
    | none => exact .inl (.inr ⟨_, by rw [eH]; exact H1_a hk⟩)
    | some o =>
      have e := KX a o hk
      rw [ha] at e
      cases e
      exact .inr ⟨_, vs.toArray, _, hk, rfl, rfl, rfl, by rw [List.size_toArray, hi.length]; exact big, by simpa using vals_ints hi⟩
  refine codeAny_mono (F _ kin (ns' hns) tb s₁ H a ns e0 hl sq fun p hp => by rw [eH]; exact H1_t hp (nta p hp)) ?_
  intro r s' h
  cases r with
  | error e =>
    obtain ⟨_, _, _, _, _, _, _, _, _, _, _, _, z⟩ := h
    exact z.elim
  | ok fl =>
    cases fl with
    | next => exact False.elim h
    | brk => exact False.elim h
    | cont => exact False.elim h
    | ret u =>
      obtain ⟨v, H', os, bare, un, hok', rv, ev⟩ := h
      have ev : v = .bl true := ev
      subst ev
      obtain rfl : u = Value.bool true := rv
      have kept : ∀ b o, (∀ p ∈ cs, p.2 ≠ b) → s₁.heap.get? b = some o → s'.heap.get? b = some o := by
        intro b o nb e
        cases q : H b with
        | none => exact un.keep b o e q (by unfold frs; simp) (by simp)
        | some u =>
          rcases inv q with ⟨eb, _, eu⟩ | ⟨p, hp, z, _⟩
          · subst eu
            obtain ⟨g1, _⟩ := hok b _ q
            obtain ⟨g2, _⟩ := hok' b _ (un.frzs b _ _ q)
            rw [e] at g1
            cases g1
            exact g2
          · exact absurd z (nb p hp)
      have grown : ∀ p ∈ cs, ∃ more : Array Value, s'.heap.get? p.2 = some { cls := .none, data := .fields more } := by
        intro p hp
        obtain ⟨more, z⟩ := un.tbls p.2 #[] (by rw [eH]; exact H1_t hp (nta p hp))
        exact ⟨_, hok' p.2 _ z⟩
      refine ⟨rfl, ⟨fun b o e => ?_, fun b o e => ?_⟩, os, bare⟩
      · by_cases hb : ∃ p ∈ cs, p.2 = b
        · obtain ⟨p, hp, ep⟩ := hb
          obtain ⟨more, hm⟩ := grown p hp
          rw [← ep] at e ⊢
          rw [(hT p hp).2.1] at e
          cases e
          refine .inr (.inl ⟨((hT p hp).1.tab (hT p hp).2.1).isCodeTable, rfl, #[], more, rfl, ?_⟩)
          rw [Array.empty_append]
          exact hm
        · exact .inl (kept b o (fun p hp z => hb ⟨p, hp, z⟩) e)
      · by_cases hb : ∃ p ∈ cs, p.2 = b
        · obtain ⟨p, hp, ep⟩ := hb
          obtain ⟨more, hm⟩ := grown p hp
          rw [← ep]
          exact ⟨_, hm⟩
        · exact ⟨o, kept b o (fun p hp z => hb ⟨p, hp, z⟩) e⟩
end
/-- the end of a law: cs is law's code object and table, or nothing -/
theorem walk_law {l : PySem.W.OpenLaw} {q : Program} {loose : List Str} {XP : (Str → Option Value) → Heap → Prop} {YP : World → Heap → Prop} {d : DefRec} {K : Params → PySem.W.Frag} {cs : Params → List (Addr × Addr)} (hn : l.most = some 63) (hdf : d.params.defaults = [])
    (hY : ∀ (w : World) (h : Heap), YP w h → (K w.params).In h) (ht : ∀ (w : World) (p : Addr × Addr), p ∈ cs w.params → (PySem.W.tabIn (K w.params) "law" = some p ∧ (K w.params).lookup p.2 = none) ∧ ∃ d2, (recsOf q).find? (fun e => e.name == ("law" : Str)) = some d2)
    (F : ∀ (w : World) (mg : Str → Option Value) (fa : Addr) (h : Heap), (K w.params).In h → h.Ns mainGlobals mg → mg d.name = some (.ref fa) →
      ∀ base : Heap, (K w.params).In base → base.Ns mainGlobals mg → (∀ p ∈ cs w.params, TabB base mg p.1 p.2) → LawRun l.prog w (K w.params) mg base fa (cs w.params)) :
    PySem.W.WalkO q loose XP YP l.row.toRowW d [] (fun f vs => PySem.call f vs) := by
  refine Att.attach_callB hn hdf fun w s₀ s₁ mg mb fa o pm cd doc a vs ns G Y ho hd hcd hmg hobj hints hlen hbits hg => ?_
  have KX := hY w _ Y
  refine law_out (cs := cs w.params) KX G.T.g G.T.b G.T.builtins G.T.nolimit hg (fun p hp => ?_) G.T.bmain hobj hints hlen fun base h1 h2 h3 => F w mg fa _ KX G.T.g hmg base h1 h2 h3
  obtain ⟨⟨e1, e2⟩, d2, e3⟩ := ht w p hp
  obtain ⟨g1, g2⟩ := PySem.W.tab_of (c := p.1) (P := p.2) G.T KX e3 e1
  exact ⟨g1, g2, e2⟩
end L2.DL

namespace L2.DL
open PySem PySem.Spec PyProof.Rows PySem.Calls
open LamX (TabB TabS Tabs)

/-! ## law by its body -/
/-- the tables of law's lambdas, by the code objects -/
def lamT (cs : List (Addr × Addr)) : List (Addr × Str) := cs.map fun p => (p.2, ("law" : Str) ++ ".<locals>." ++ "<lambda>")
def JL (E : XK) (cs : List (Addr × Addr)) : Jx := { JE E with kn := knT (lamT cs) }
section
variable {P : Program} {w : World} {K : PySem.W.Frag} {mg : Str → Option Value} {base : Heap} {st : Stmt} {fa : Addr} {fd : FuncData} {N : List Str} {k : Nat} {cs : List (Addr × Addr)} {b : EvS}
theorem ok_law (F : Fun K "law" "law" st fa fd) (ha : PySem.W.nsIn K mainGlobals "law" = some (some (.ref fa))) (S : FnScope N ["script"] (defScope st)) (hb : L2.Binds K fd ["script"] []) (hr : Room (k + 1) callerA) (ht : ∀ p ∈ cs, PySem.W.tabIn K "law" = some p)
    (hbody : ∀ (cdv : Value) (A : Around) (outer : List Env) (s : Shared) (H : Hp) (E : XK), A.guards = some [] → (∀ p ∈ cs, cdv = .ref p.1) → Room k (A.deeper (envOfC "law" (defScope st) s.heap.objs.size fa cdv)) →
      L2N.Takes (cxOf (L2N.CX P w) P w K mg base N "law" (defScope st) fa cdv A outer s H E) (JL E cs).W →
      PassesOwn (model P w) (cxOf (L2N.CX P w) P w K mg base N "law" (defScope st) fa cdv A outer s H E).A (cxOf (L2N.CX P w) P w K mg base N "law" (defScope st) fa cdv A outer s H E).env (cxOf (L2N.CX P w) P w K mg base N "law" (defScope st) fa cdv A outer s H E).xe →
      PSs (cxOf (L2N.CX P w) P w K mg base N "law" (defScope st) fa cdv A outer s H E) (defBody st) (tS K (JL E cs) b))
    (hgo : ∀ ns : List Int, ns.length ≤ 63 → fnP N.length b [.list (ns.map .int)] = .ok (.bool true)) : LawRun P w K mg base fa cs := by
  intro s H a ns e0 hl sq hT
  obtain ⟨oc, od, kV, doc, pm, an, cdv, ct, osl, rfl, lk, hcd⟩ := id F.ex
  refine LamX.run_ofS (N := N) (ps := ["script"]) (us := [.ref a]) (vs := [.ref a]) lk hcd S hr e0 (hb s [.ref a] (e0.mod.kin.keeps fun b o z => (e0.bs b o z).1) rfl) (.cons rfl .nil) rfl fun hr' => ?_
  have cd : ∀ p ∈ cs, cdv = .ref p.1 := by
    intro p hp
    have z := ht p hp
    unfold PySem.W.tabIn at z
    rw [ha] at z
    dsimp only at z
    rw [lk] at z
    dsimp only at z
    split at z
    · split at z
      · split at z
        · cases z; rfl
        · cases z
      · cases z
    · cases z
  refine ⟨_, PSs.pre (hbody cdv callerA [] s H (fun _ _ _ => False) rfl cd hr' tk_top hp_top), fun kf => ?_⟩
  have R0 : Rel K (JE fun _ _ _ => False) ⟨fun _ => False, fun _ => False, fun _ _ => False, fun _ _ => False⟩ (fnStart N.length [.list (ns.map .int)]) (start N [V.ref a]) H :=
    rel_start kf (fun _ z => z.elim) (.cons (.lst (fun z => z) sq (rpA_of_ints ns)) .nil) _ fun _ _ z => z.elim
  refine ⟨_, _, ⟨R0.len, R0.kf, R0.dom, R0.dat, R0.own, R0.sep, R0.held, R0.keep, R0.exn, R0.raw, ⟨fun p hp => ?_, fun _ _ z => z.elim, fun _ z => z.elim⟩⟩, ?_⟩
  · obtain ⟨p', hp', rfl⟩ := List.mem_map.mp hp
    exact TabS.nil (hT p' hp')
  · have go := hgo ns hl
    unfold fnP at go
    cases hb : b (fnStart N.length [.list (ns.map .int)]) with
    | error e =>
      rw [hb] at go
      cases e with
      | stuck => cases go
      | exc c fs ρ => cases go
    | ok p =>
      rw [hb] at go
      obtain ⟨c, ρ'⟩ := p
      have go : fnEnd (c, ρ') = .ok (.bool true) := by
        cases q : fnEnd (c, ρ') with
        | ok d => rw [bnd_ok, q] at go; exact go
        | error e => rw [bnd_ok, q] at go; cases e <;> cases go
      cases c with
      | nx => cases go
      | bk => cases go
      | ct => cases go
      | rt d => cases go; exact fun σ' v H' _ rv => rv.bool_inv
end

/-! ## what the top has left of the classes -/
def CatchK (K : PySem.W.Frag) (x : Str) (tk : List (Str × Bool)) : Prop := ∃ CH, PySem.W.nsIn K mainGlobals x = some (some (.ref CH)) ∧ ∀ c b, tk.lookup c = some b → ∀ C, clsAt K c C → PySem.W.exmOne K (.ref C) (.ref CH) = some b
theorem CatchK.nil {K : PySem.W.Frag} {x : Str} {CH : Addr} (h : PySem.W.nsIn K mainGlobals x = some (some (.ref CH))) : CatchK K x [] := ⟨CH, h, fun _ _ z => nomatch z⟩
theorem CatchK.cons {K : PySem.W.Frag} {x c : Str} {b : Bool} {tk : List (Str × Bool)} {C CH : Addr} (h : CatchK K x tk) (hx : PySem.W.nsIn K mainGlobals x = some (some (.ref CH))) (hc : PySem.W.nsIn K mainGlobals c = some (some (.ref C))) (he : PySem.W.exmOne K (.ref C) (.ref CH) = some b) : CatchK K x ((c, b) :: tk) := by
  obtain ⟨CH', h1, h2⟩ := h
  rw [hx] at h1
  cases h1
  refine ⟨CH, hx, fun c' b' hl C' hC' => ?_⟩
  by_cases q : c' = c
  · subst q
    simp [List.lookup] at hl
    subst hl
    unfold clsAt at hC'
    rw [hc] at hC'
    cases hC'
    exact he
  · have q' : (c' == c) = false := by simpa using q
    simp [List.lookup, q'] at hl
    exact h2 c' b' hl C' hC'
theorem CatchK.to {K : PySem.W.Frag} {mg : Str → Option Value} {h : Heap} {x : Str} {tk : List (Str × Bool)} (X : K.In h) (G : h.Ns mainGlobals mg) (c : CatchK K x tk) : CatchX K mg x tk := by
  obtain ⟨CH, h1, h2⟩ := c
  exact ⟨CH, PySem.W.mg_of X G h1, h2⟩
theorem FldX.nil {K : PySem.W.Frag} {n : Str} : FldX K n [] := ⟨fun _ z => nomatch z⟩
theorem FldX.cons {K : PySem.W.Frag} {n c : Str} {cs : List Str} {C : Addr} (h : FldX K n cs) (hc : PySem.W.nsIn K mainGlobals c = some (some (.ref C))) (hx : xfB K C = true) (hf : PySem.W.findIn K (.ref C) n = some none) : FldX K n (c :: cs) := ⟨fun c' hc' C' hC' => by
  rcases List.mem_cons.mp hc' with q | q
  · subst q
    unfold clsAt at hC'
    rw [hc] at hC'
    cases hC'
    exact ⟨xfB_ok hx, hf⟩
  · exact h.ok c' q C' hC'⟩

/-! ## exceptions, in plain sight -/
section
variable {α β S : Type} {ρ : DEnv} {I : β → Ctl → DEnv → Prop}
def qfld (c : Str) (fs : List (Str × D)) (n : Str) (cs : List Str) : Res D := if c ∈ cs then match fs.lookup n with | some d => .ok d | none => stuck else stuck
theorem eFld {i : Nat} {n c : Str} {cs : List Str} {fs : List (Str × D)} (h : ρ[i]? = some (some (.exn c fs))) : Ev (mFld i n cs) ρ (qfld c fs n cs) := by
  show EvR (mFld i n cs ρ) ρ _
  unfold mFld qfld
  rw [h]
  dsimp only
  by_cases q : c ∈ cs
  · rw [if_pos q, if_pos q]
    cases fs.lookup n with
    | none => exact True.intro
    | some d => exact rfl
  · rw [if_neg q, if_neg q]
    exact True.intro
def qraise {β : Type} (x : Str) (names : List Str) (l : Res (List D)) : Res β := bnd l fun xs => if xs.length = names.length ∧ xs.length ≤ 1000 ∧ xs ≠ [] then .error (.exc x (names.zip xs) []) else stuck
theorem sRaise {x : Str} {names : List Str} {fs : EvA} {l : Res (List D)} {rest : EvS} (h : Ev fs ρ l) : Sim (mSeq (mRaise x names fs) rest ρ) (qraise x names l) I := by
  have e : mSeq (mRaise x names fs) rest ρ = mRaise x names fs ρ := by
    show DL.bnd (DL.bnd (fs ρ) _) _ = DL.bnd (fs ρ) _
    cases fs ρ with
    | error e => rfl
    | ok p =>
      show DL.bnd (if p.1.length = names.length ∧ p.1.length ≤ 1000 ∧ p.1 ≠ [] then _ else _) _ = if p.1.length = names.length ∧ p.1.length ≤ 1000 ∧ p.1 ≠ [] then _ else _
      by_cases q : p.1.length = names.length ∧ p.1.length ≤ 1000 ∧ p.1 ≠ []
      · rw [if_pos q]; rfl
      · rw [if_neg q]; rfl
  rw [e]
  refine Sim.bnd h fun xs => ?_
  dsimp only
  by_cases q : xs.length = names.length ∧ xs.length ≤ 1000 ∧ xs ≠ []
  · rw [if_pos q, if_pos q]; exact ⟨ρ, rfl⟩
  · rw [if_neg q, if_neg q]; exact True.intro
/-- as Sim, and what is let out is let out at ρ -/
def SimE (ρ : DEnv) (x : Res (Ctl × DEnv)) (q : Res β) (I : β → Ctl → DEnv → Prop) : Prop := match q with
  | .ok b => ∃ c ρ, x = .ok (c, ρ) ∧ I b c ρ
  | .error .stuck => True
  | .error (.exc c fs _) => x = .error (.exc c fs ρ)
theorem SimE.bnd {x : Res (α × DEnv)} {q : Res α} {F : α × DEnv → Res (Ctl × DEnv)} {k : α → Res β} (h : EvR x ρ q) (hk : ∀ a, SimE ρ (F (a, ρ)) (k a) I) : SimE ρ (DL.bnd x F) (DL.bnd q k) I := by
  cases q with
  | ok a => have e : x = .ok (a, ρ) := h; rw [e]; exact hk a
  | error e =>
    cases e with
    | stuck => exact True.intro
    | exc c fs r => have e : x = .error (.exc c fs ρ) := h; rw [e]; exact rfl
/-- the rest lets nothing out -/
theorem SimE.of {x : Res (Ctl × DEnv)} {q : Res β} (h : Sim x q I) : SimE ρ x (DL.pur q) I := by
  cases q with
  | ok b => exact h
  | error e => exact True.intro
def qHd {β : Type} (tk : List (Str × Bool)) (c : Str) (q q2 : Res β) : Res β := match tk.lookup c with
  | some true => DL.pur q
  | some false => q2
  | none => stuck
theorem hds_nil {c : Str} {fs : List (Str × D)} : Sim (mHds c fs [] ρ) (.error (.exc c fs []) : Res β) I := ⟨ρ, rfl⟩
theorem hds_cons {tk : List (Str × Bool)} {oi : Option Nat} {f : EvS} {c : Str} {fs : List (Str × D)} {l : List Hd} {q q2 : Res β} {I1 : β → Ctl → DEnv → Prop} (h1 : Sim (f (onE oi c fs (wipeX ρ))) q I1) (hI : ∀ b ctl ρ', I1 b ctl ρ' → I b ctl (offD oi (wipeX ρ'))) (h2 : Sim (mHds c fs l ρ) q2 I) :
    Sim (mHds c fs (⟨tk, oi, f⟩ :: l) ρ) (qHd tk c q q2) I := by
  unfold mHds qHd
  dsimp only
  cases tk.lookup c with
  | none => exact True.intro
  | some b =>
    cases b with
    | false => exact h2
    | true =>
      show Sim (mHd ⟨tk, oi, f⟩ c fs ρ) (DL.pur q) I
      unfold mHd
      dsimp only
      cases q with
      | ok b =>
        obtain ⟨ctl, ρ', e, i⟩ := h1
        rw [e]
        exact ⟨ctl, _, rfl, hI b ctl ρ' i⟩
      | error e => exact True.intro
/-- try -/
def qTry {β : Type} (b : Res β) (h : Str → List (Str × D) → Res β) : Res β := match b with
  | .ok v => .ok v
  | .error (.exc c fs _) => h c fs
  | .error .stuck => stuck
theorem sTry {b : EvS} {l : List Hd} {qb : Res β} {qh : Str → List (Str × D) → Res β} (h1 : SimE ρ (b ρ) qb I) (h2 : ∀ c fs, Sim (mHds c fs l ρ) (qh c fs) I) : Sim (mTry b l ρ) (qTry qb qh) I := by
  unfold mTry qTry
  cases qb with
  | ok v => obtain ⟨c, ρ', e, i⟩ := h1; rw [e]; exact ⟨c, ρ', rfl, i⟩
  | error e =>
    cases e with
    | stuck => exact True.intro
    | exc c fs r => have e : b ρ = .error (.exc c fs ρ) := h1; rw [e]; exact h2 c fs
/-- a helper's answer to what act() comes to -/
def qHlp (k : D → Res D) (h : Str → List (Str × D) → Res D) : Res D → Res D
  | .ok d => k d
  | .error (.exc c fs _) => h c fs
  | .error .stuck => stuck
theorem hlp_ref {k : D → Res D} {l : List Hd} {n : Nat} {h : Str → List (Str × D) → Res D} (hh : ∀ c fs, Sim (mHds c fs l (List.replicate n none)) (h c fs) IP) : ∀ r d, qHlp k h r = .ok d → qHelp k l n r = .ok d := by
  intro r d e
  cases r with
  | ok v => exact e
  | error er =>
    cases er with
    | stuck => cases e
    | exc c fs r =>
      have e : h c fs = .ok d := e
      have z := hh c fs
      rw [e] at z
      obtain ⟨ctl, ρ', e1, hc⟩ := z
      show DL.bnd (DL.pur (mHds c fs l (List.replicate n none))) fnEnd = _
      rw [e1]
      rcases hc with hc | ⟨hc, hd⟩
      · subst hc; rfl
      · subst hc hd; rfl
def qLam (q : Res D → Res D) (r : Res D) : Res D := match r with
  | .ok d => DL.pur (q (.ok d))
  | .error (.exc c fs _) => DL.pur (q (.error (.exc c fs [])))
  | .error .stuck => stuck
theorem eLam {q q' : Res D → Res D} {fb : EvF} {r : Res D} (hq : ∀ r d, q' r = .ok d → q r = .ok d) (h : Ev fb (onlyD ρ) r) : Ev (mLam q fb) ρ (qLam q' r) := by
  show EvR (mLam q fb ρ) ρ _
  unfold mLam qLam
  cases r with
  | ok d =>
    have e : fb (onlyD ρ) = .ok (d, onlyD ρ) := h
    rw [e]
    show EvR (DL.bnd (DL.pur (q (.ok d))) _) ρ (DL.pur (q' (.ok d)))
    cases z : q' (.ok d) with
    | ok v => rw [hq _ _ z]; exact rfl
    | error e => exact True.intro
  | error er =>
    cases er with
    | stuck => exact True.intro
    | exc c fs r =>
      have e : fb (onlyD ρ) = .error (.exc c fs (onlyD ρ)) := h
      rw [e]
      show EvR (DL.bnd (DL.pur (q (.error (.exc c fs [])))) _) ρ (DL.pur (q' (.error (.exc c fs []))))
      cases z : q' (.error (.exc c fs [])) with
      | ok v => rw [hq _ _ z]; exact rfl
      | error e => exact True.intro
end
end L2.DL

namespace L2.DL
open PySem PySem.Spec PyProof.Rows PySem.Calls

section
variable {α β S : Type} {ρ : DEnv} {I : β → Ctl → DEnv → Prop} {q : Res D} {k : D → Res β} {f fc : EvF} {rest a b : EvS} {i : Nat}
theorem simE_of {x : Res (Ctl × DEnv)} {F : D × DEnv → Res (Ctl × DEnv)} (h : Ev f ρ q) (hx : x = DL.bnd (f ρ) F) (hs : Sim x (DL.bnd q k) I) : SimE ρ x (DL.bnd q fun d => DL.pur (k d)) I := by
  cases q with
  | ok d => exact SimE.of hs
  | error e =>
    cases e with
    | stuck => exact True.intro
    | exc c fs r =>
      have e : f ρ = .error (.exc c fs ρ) := h
      show x = .error (.exc c fs ρ)
      rw [hx, e]
      rfl
theorem eRetE {r : D → β} (h : Ev f ρ q) (hs : Sim (mSeq (mRet f) rest ρ) (DL.bnd q fun d => .ok (r d)) I) : SimE ρ (mSeq (mRet f) rest ρ) (DL.bnd q fun d => .ok (r d)) I :=
  simE_of (k := fun d => .ok (r d)) h seq_ret hs
theorem eSetE (h : Ev f ρ q) (hs : Sim (mSeq (mSet i f) rest ρ) (DL.bnd q k) I) : SimE ρ (mSeq (mSet i f) rest ρ) (DL.bnd q fun d => DL.pur (k d)) I := simE_of h seq_set hs
theorem eExprE {q2 : Res β} (h : Ev f ρ q) (hs : Sim (mSeq (mExpr f) rest ρ) (DL.bnd q fun _ => q2) I) : SimE ρ (mSeq (mExpr f) rest ρ) (DL.bnd q fun _ => DL.pur q2) I := by
  refine simE_of (k := fun _ => q2) (F := fun p => rest p.2) h ?_ hs
  show DL.bnd (DL.bnd (f ρ) _) _ = _
  cases f ρ with
  | error e => rfl
  | ok p => rfl
theorem eIfE {qa q_b : Res β} (h : Ev fc ρ q) (hs : Sim (mSeq (mIfS fc a b) rest ρ) (qifs q qa q_b) I) : SimE ρ (mSeq (mIfS fc a b) rest ρ) (DL.bnd q fun d => DL.pur (qsel d qa q_b)) I := simE_of (k := fun d => qsel d qa q_b) h seq_if hs
theorem eOne {st : EvS} {q : Res β} (h : SimE ρ (mSeq st mNx ρ) q I) : SimE ρ (st ρ) q I := by
  have e : mSeq st mNx ρ = st ρ := by
    show DL.bnd (st ρ) _ = st ρ
    cases st ρ with
    | error e => rfl
    | ok p =>
      obtain ⟨c, ρ1⟩ := p
      cases c <;> rfl
  rw [e] at h
  exact h
theorem eAss {s1 s2 : EvS} {q : Res β} (h : SimE ρ (mSeq s1 (mSeq s2 rest) ρ) q I) : SimE ρ (mSeq (mSeq s1 s2) rest ρ) q I := by
  have e : mSeq (mSeq s1 s2) rest ρ = mSeq s1 (mSeq s2 rest) ρ := by
    show DL.bnd (DL.bnd (s1 ρ) _) _ = DL.bnd (s1 ρ) _
    cases s1 ρ with
    | error e => rfl
    | ok p =>
      obtain ⟨c, ρ1⟩ := p
      cases c <;> rfl
  rw [e]
  exact h
/-- how a try statement ends -/
def CnvT (R : S → DEnv) : Cn S → Ctl → DEnv → Prop
  | .nx s, c, ρ' => c = .nx ∧ ρ' = R s
  | .bk _, _, _ => False
  | .rt d, c, _ => c = .rt d
theorem cnvT_off {R1 R : S → DEnv} {oi : Option Nat} (h : ∀ s, offD oi (wipeX (R1 s)) = R s) : ∀ b c ρ', CnvT R1 b c ρ' → CnvT R b c (offD oi (wipeX ρ')) := by
  intro b c ρ' hc
  cases b with
  | nx s => obtain ⟨h1, h2⟩ := hc; subst h1 h2; exact ⟨rfl, h s⟩
  | bk s => exact hc
  | rt d => exact hc
theorem sTryC {bd : EvS} {l : List Hd} {R : S → DEnv} {qb : Res (Cn S)} {qh : Str → List (Str × D) → Res (Cn S)} {ks : S → Res β} {kr : D → Res β} (h1 : SimE ρ (bd ρ) qb (CnvT R)) (h2 : ∀ c fs, Sim (mHds c fs l ρ) (qh c fs) (CnvT R))
    (hk : ∀ s, Sim (rest (R s)) (ks s) I) (hr : ∀ d ρ', Sim (.ok (.rt d, ρ')) (kr d) I) : Sim (mSeq (mTry bd l) rest ρ) (DL.bnd (qTry qb qh) (qCn ks kr)) I := by
  have z := sTry h1 h2
  refine Sim.mapI z fun b c ρ' hc => ?_
  cases b with
  | nx s => obtain ⟨e1, e2⟩ := hc; subst e1 e2; exact hk s
  | bk s => exact hc.elim
  | rt d => subst hc; exact hr d ρ'
end
theorem hu64 {k : Nat} {A : Around} (hr : Room k A) : A.units + 64 < cLine := by have := hr.un; omega
theorem hu200 {k : Nat} {A : Around} (hr : Room k A) : A.units + 200 < cLine := by have := hr.un; omega
/-- a helper that is handed a lambda -/
structure HelpH (K : PySem.W.Frag) (mg : Str → Option Value) (x : Str) (st : Stmt) (a : Str) : Prop where
  ex : ∃ (g : Addr) (fd : FuncData), mg x = some (.ref g) ∧ Fun K x x st g fd ∧ L2.Binds K fd [a] []
theorem law_ref {N : Nat} {b : EvS} {q : List D → Res D} (s : ∀ ds, RefR (fnP N b ds) (q ds)) (h : ∀ ns : List Int, ns.length ≤ 63 → q [.list (ns.map .int)] = .ok (.bool true)) : ∀ ns : List Int, ns.length ≤ 63 → fnP N b [.list (ns.map .int)] = .ok (.bool true) := fun ns hl => by
  have z := s [.list (ns.map .int)]
  rw [h ns hl] at z
  exact z
theorem lamT_one {c P : Addr} : (P, ("law" : Str) ++ ".<locals>." ++ "<lambda>") ∈ lamT [(c, P)] := List.mem_singleton.mpr rfl
theorem lamT_all {c P : Addr} : ∀ p ∈ lamT [(c, P)], p.1 = P → p.2 = ("law" : Str) ++ ".<locals>." ++ "<lambda>" := fun p hp _ => by
  have hp : p ∈ [(P, ("law" : Str) ++ ".<locals>." ++ "<lambda>")] := hp
  rw [List.mem_singleton] at hp
  rw [hp]
/-- law's code object and its table, if there is one -/
def tabs (K : PySem.W.Frag) : List (Addr × Addr) := match PySem.W.tabIn K "law" with
  | some p => [p]
  | none => []
theorem isc_free {sc : Scope} (h : ∀ y ∈ sc.names, y.2 = .free → y.1 = "__class__") (x : Str) (hl : sc.names.lookup x = some .free) : x = "__class__" := h _ (PySem.mem_of_lookup hl) rfl
theorem tabIn_of {K : PySem.W.Frag} {x : Str} {f c P : Addr} {fd : FuncData} {c1 c2 : Value} {d1 d2 : Option Addr} {s1 s2 : Array (Option Value)} {vs : Array Value} (h1 : PySem.W.nsIn K mainGlobals x = some (some (.ref f))) (h2 : K.lookup f = some ⟨c1, d1, .func fd, s1⟩) (h3 : fd.code = .ref c)
    (h4 : K.lookup c = some ⟨c2, d2, .fields vs, s2⟩) (h5 : (vs[11]? : Option Value) = some (.ref P)) : PySem.W.tabIn K x = some (c, P) := by
  unfold PySem.W.tabIn
  rw [h1]
  dsimp only
  rw [h2]
  dsimp only
  rw [h3]
  dsimp only
  rw [h4]
  dsimp only
  rw [h5]
theorem tabs_of {K : PySem.W.Frag} {c P : Addr} (h : PySem.W.tabIn K "law" = some (c, P)) : tabs K = [(c, P)] := by
  unfold tabs
  rw [h]
/-- the end of a law that makes lambdas -/
theorem walk_lawT {l : PySem.W.OpenLaw} {q : Program} {loose : List Str} {XP : (Str → Option Value) → Heap → Prop} {YP : World → Heap → Prop} {d : DefRec} {K : Params → PySem.W.Frag} (hn : l.most = some 63) (hdf : d.params.defaults = [])
    (hY : ∀ (w : World) (h : Heap), YP w h → (K w.params).In h) (ht : ∀ w : World, ∃ c P, PySem.W.tabIn (K w.params) "law" = some (c, P) ∧ (K w.params).lookup P = none) (hd : ∃ d2, (recsOf q).find? (fun e => e.name == ("law" : Str)) = some d2)
    (F : ∀ (w : World) (mg : Str → Option Value) (fa : Addr) (h : Heap), (K w.params).In h → h.Ns mainGlobals mg → mg d.name = some (.ref fa) →
      ∀ base : Heap, (K w.params).In base → base.Ns mainGlobals mg → (∀ p ∈ tabs (K w.params), LamX.TabB base mg p.1 p.2) → LawRun l.prog w (K w.params) mg base fa (tabs (K w.params))) :
    PySem.W.WalkO q loose XP YP l.row.toRowW d [] (fun f vs => PySem.call f vs) := by
  refine walk_law (cs := fun prm => tabs (K prm)) hn hdf hY (fun w p hp => ?_) F
  obtain ⟨c, P, h1, h2⟩ := ht w
  have hp : p ∈ tabs (K w.params) := hp
  rw [tabs_of h1, List.mem_singleton] at hp
  subst hp
  exact ⟨⟨h1, h2⟩, hd⟩
end L2.DL

namespace L2.DL.Cm
open PySem PySem.Spec PyProof.Rows
noncomputable def b__law_alike : EvS := (mSeq (mPar [2, 3] [(.n (mNL (mLst (mCons (mTup (mCons (mVar 0) (mCons (mVar 1) mNil))) mNil)))), (.d (mC (.int 0)))]) (mSeq (mWhile (mCmp ltD (mVar 3) (mV lenS (mOwn 2))) (mSeq (mAsg (mIxOwn 2 (mVar 3)) (gT (gsC (gN 4) (gsC (gN 5) gsN)) 2)) (mSeq (mAug 3 iaddD (mC (.int 1))) (mSeq (mIfS (mOr (mCmp neD (mIsi .bool (mVar 4)) (mIsi .bool (mVar 5))) (mCmp neD (mIsi .str (mVar 4)) (mIsi .str (mVar 5)))) (mSeq (mRet (mC (.bool false))) mNx) mNx) (mSeq (mIfS (mCmp neD (mIsiT [.tuple, .list] (mVar 4)) (mIsiT [.tuple, .list] (mVar 5))) (mSeq (mRet (mC (.bool false))) mNx) mNx) (mSeq (mIfS (mIsiT [.tuple, .list] (mVar 4)) (mSeq (mIfS (mOr (mCmp neD (mIsi .tuple (mVar 4)) (mIsi .tuple (mVar 5))) (mCmp neD (mV lenS (mView (mVar 4))) (mV lenS (mView (mVar 5))))) (mSeq (mRet (mC (.bool false))) mNx) mNx) (mSeq (mExt 2 (mZip (mVar 4) (mVar 5))) mNx)) (mSeq (mIfS (mCmp neD (mVar 4) (mVar 5)) (mSeq (mRet (mC (.bool false))) mNx) mNx) mNx)) (mKill [4, 5] mNx))))))) (mSeq (mRet (mC (.bool true))) mNx)))
noncomputable def q__law_alike : List D → Res D := m2 fun found_1 due_2 => (bnd (qlst (qcons (qtup (qcons (.ok found_1) (qcons (.ok due_2) qnil))) qnil)) fun (pairs_3 : List D) => (bnd (.ok (.int 0)) fun at_4 => (bnd (whileQ (fun (s_6 : List D × D) => (qcmp ltD (.ok s_6.2) (qv lenS (.ok (false, s_6.1))))) (fun (s_6 : List D × D) => (bnd (qixO s_6.1 (.ok s_6.2)) fun d_8 => bnd (pur (unp (.t [.n, .n]) d_8)) (m2 fun one_9 other_10 => (bnd (q2 iaddD (.ok s_6.2) (.ok (.int 1))) fun at_11 => (qifs (qor (qcmp neD (qisi .bool (.ok one_9)) (qisi .bool (.ok other_10))) (qcmp neD (qisi .str (.ok one_9)) (qisi .str (.ok other_10)))) (bnd (.ok (.bool false)) fun d_12 => .ok (Cn.rt d_12)) (qifs (qcmp neD (qisiT [.tuple, .list] (.ok one_9)) (qisiT [.tuple, .list] (.ok other_10))) (bnd (.ok (.bool false)) fun d_13 => .ok (Cn.rt d_13)) (qifs (qisiT [.tuple, .list] (.ok one_9)) (qifs (qor (qcmp neD (qisi .tuple (.ok one_9)) (qisi .tuple (.ok other_10))) (qcmp neD (qv lenS (qview (.ok one_9))) (qv lenS (qview (.ok other_10))))) (bnd (.ok (.bool false)) fun d_14 => .ok (Cn.rt d_14)) (bnd (qzip (.ok one_9) (.ok other_10)) fun d_16 => bnd (extQ s_6.1 d_16) fun pairs_15 => (.ok (.nx (pairs_15, at_11))))) (qifs (qcmp neD (.ok one_9) (.ok other_10)) (bnd (.ok (.bool false)) fun d_17 => .ok (Cn.rt d_17)) (.ok (.nx (s_6.1, at_11))))))))))) (pairs_3, at_4)) (qCn (fun (s_7 : List D × D) => (.ok (.bool true))) (fun d => .ok d)))))
noncomputable def b__law_bag : EvA := (mLst (mCons (mC (.int 0)) (mCons (mC (.int 1234567891)) (mCons (mC (.int 0)) (mCons (mOfL (mComp (mSeqI (mSl (mVar 0) mNo (mSo (mC (.int 63))))) [1] (gN 1) (mC (.bool true)) (mDs absD (mCons (mVar 1) mNil)))) mNil)))))
noncomputable def q__law_bag : List D → Res (List D) := m1 fun script_1 => (qlst (qcons (.ok (.int 0)) (qcons (.ok (.int 1234567891)) (qcons (.ok (.int 0)) (qcons (qofL (qcomp (fun cell_2 => (.ok (.bool true))) (fun cell_2 => (qds absD (qcons (.ok cell_2) qnil))) (qseq (qsl (.ok script_1) qno (qso (.ok (.int 63))))))) qnil)))))
noncomputable def b__law_take : EvS := (mSeq (mIfS (mCmp eqD (mIxOwn 0 (mC (.int 0))) (mC (.int 0))) (mSeq (mSet 2 (mOp ixD (mOp addD (mSl (mIxOwn 0 (mC (.int 3))) (mSo (mIxOwn 0 (mC (.int 2)))) mNo) (mOfL (mLst (mCons (mC (.int 0)) mNil)))) (mC (.int 0)))) (mSeq (mAugS 0 iaddD (mC (.int 2)) (mC (.int 1))) (mSeq (mIfS (mCmp geD (mVar 2) (mOp powD (mC (.int 10)) (mC (.int 18)))) (mSeq (mStore 0 (mVar 2) (mC (.int 0))) mNx) mNx) (mSeq (mSet 3 (mOp addD (mOp addD (mOp mulD (mIxOwn 0 (mC (.int 1))) (mC (.int 48271))) (mOp modD (mDs intD (mCons (mVar 2) mNil)) (mC (.int 2147483647)))) (mOp mulD (mC (.int 7919)) (mIxOwn 0 (mC (.int 2)))))) (mSeq (mStore 0 (mOp modD (mDs intD (mCons (mVar 3) mNil)) (mC (.int 2147483647))) (mC (.int 1))) (mKill [2, 3] mNx)))))) mNx) (mSeq (mIfS (mCmp gtD (mIxOwn 0 (mC (.int 0))) (mC (.int 0))) (mSeq (mSet 4 (mOp modD (mDs intD (mCons (mIxOwn 0 (mC (.int 0))) mNil)) (mVar 1))) (mSeq (mStore 0 (mOp fdivD (mDs intD (mCons (mIxOwn 0 (mC (.int 0))) mNil)) (mVar 1)) (mC (.int 0))) (mSeq (mRet (mVar 4)) mNx))) mNx) (mSeq (mSet 5 (mOp modD (mDs intD (mCons (mOp mulD (mOp addD (mIxOwn 0 (mC (.int 1))) (mC (.int 1))) (mC (.int 39373))) mNil)) (mC (.int 1000000007)))) (mSeq (mSet 6 (mOp modD (mDs intD (mCons (mOp mulD (mOp modD (mDs intD (mCons (mOp mulD (mVar 5) (mVar 5)) mNil)) (mC (.int 998244353))) (mC (.int 30011))) mNil)) (mC (.int 998244353)))) (mSeq (mRet (mOp modD (mDs intD (mCons (mOp fdivD (mVar 6) (mC (.int 7))) mNil)) (mVar 1))) mNx)))))
noncomputable def q__law_take : List D → List D → Res (D × List D) := fun bag_1 => m1 fun many_2 => (bnd (qifs (qcmp eqD (qixO bag_1 (.ok (.int 0))) (.ok (.int 0))) (bnd (q2 ixD (q2 addD (qsl (qixO bag_1 (.ok (.int 3))) (qso (qixO bag_1 (.ok (.int 2)))) qno) (qofL (qlst (qcons (.ok (.int 0)) qnil)))) (.ok (.int 0))) fun (cell_3 : D) => (bnd (.ok (.int 2)) fun y_5 => bnd (oldQ bag_1 y_5) fun o_6 => bnd (.ok (.int 1)) fun w_7 => bnd (pur (iaddD o_6 w_7)) fun z_8 => bnd (stoQ bag_1 z_8 y_5) fun bag_4 => (bnd (qifs (qcmp geD (.ok cell_3) (q2 powD (.ok (.int 10)) (.ok (.int 18)))) (bnd (.ok cell_3) fun a_10 => bnd (.ok (.int 0)) fun b_11 => bnd (stoQ bag_4 a_10 b_11) fun bag_9 => (.ok bag_9)) (.ok bag_4)) fun (s_12 : List D) => (bnd (q2 addD (q2 addD (q2 mulD (qixO s_12 (.ok (.int 1))) (.ok (.int 48271))) (q2 modD (qds intD (qcons (.ok cell_3) qnil)) (.ok (.int 2147483647)))) (q2 mulD (.ok (.int 7919)) (qixO s_12 (.ok (.int 2))))) fun (stirred_14 : D) => (bnd (q2 modD (qds intD (qcons (.ok stirred_14) qnil)) (.ok (.int 2147483647))) fun a_16 => bnd (.ok (.int 1)) fun b_17 => bnd (stoQ s_12 a_16 b_17) fun bag_15 => (.ok bag_15)))))) (.ok bag_1)) fun (s_18 : List D) => (qifs (qcmp gtD (qixO s_18 (.ok (.int 0))) (.ok (.int 0))) (bnd (q2 modD (qds intD (qcons (qixO s_18 (.ok (.int 0))) qnil)) (.ok many_2)) fun (value_20 : D) => (bnd (q2 fdivD (qds intD (qcons (qixO s_18 (.ok (.int 0))) qnil)) (.ok many_2)) fun a_22 => bnd (.ok (.int 0)) fun b_23 => bnd (stoQ s_18 a_22 b_23) fun bag_21 => (bnd (.ok value_20) fun d_24 => .ok (d_24, bag_21)))) (bnd (q2 modD (qds intD (qcons (q2 mulD (q2 addD (qixO s_18 (.ok (.int 1))) (.ok (.int 1))) (.ok (.int 39373))) qnil)) (.ok (.int 1000000007))) fun (begin_25 : D) => (bnd (q2 modD (qds intD (qcons (q2 mulD (q2 modD (qds intD (qcons (q2 mulD (.ok begin_25) (.ok begin_25)) qnil)) (.ok (.int 998244353))) (.ok (.int 30011))) qnil)) (.ok (.int 998244353))) fun (second_26 : D) => (bnd (q2 modD (qds intD (qcons (q2 fdivD (.ok second_26) (.ok (.int 7))) qnil)) (.ok many_2)) fun d_27 => .ok (d_27, s_18))))))
noncomputable def b__law_some : EvS := (mSeq (mRet (mOp ixD (mVar 1) (mCallB 2 q__law_take 0 (mCons (mV lenS (mView (mVar 1))) mNil)))) mNx)
noncomputable def q__law_some : List D → List D → Res (D × List D) := fun bag_1 => m1 fun things_2 => (setX (x2 ixD (xl bag_1 (.ok things_2)) (fun (s_3 : List D) => (xcallB 2 q__law_take (fun (s : List D) => s) (fun (s : List D) l => l) (xl s_3 (qcons (qv lenS (qview (.ok things_2))) qnil))))) fun p_5 (s_6 : List D) => .ok (p_5, s_6))
noncomputable def b__law_mixed : EvS := (mSeq (mPar [2, 3] [(.n (mNL (mVL lstS (mView (mVar 1))))), (.n (mNL (mLst mNil)))]) (mSeq (mWhile (mCmpO neD 2 (mOfL (mLst mNil))) (mSeq (mApp 3 (mPopAt 2 (mCallB 2 q__law_take 0 (mCons (mV lenS (mOwn 2)) mNil)))) mNx)) (mFrz 3 (mSeq (mRet (mVar 3)) mNx))))
noncomputable def q__law_mixed : List D → List D → Res (D × List D) := fun bag_1 => m1 fun things_2 => (bnd (qv lstS (qview (.ok things_2))) fun (left_3 : List D) => (bnd (qlst qnil) fun (found_4 : List D) => (bnd (whileQ (fun (s_6 : List D × List D × List D) => (qcmpO neD s_6.2.1 (qofL (qlst qnil)))) (fun (s_6 : List D × List D × List D) => (appX (fun (s_11 : List D × List D) => s_6.2.2) (xpop (fun (s : List D × List D) => s.2) (fun (s : List D × List D) l => (s.1, l)) (xcallB 2 q__law_take (fun (s : List D × List D) => s.1) (fun (s : List D × List D) l => (l, s.2)) (xl (s_6.1, s_6.2.1) (qcons (qv lenS (.ok (false, (s_6.1, s_6.2.1).2))) qnil)))) fun (s_11 : List D × List D) found_8 => (.ok (.nx (s_11.1, s_11.2, found_8))))) (bag_1, left_3, found_4)) (qCn (fun (s_7 : List D × List D × List D) => (bnd (.ok (.list s_7.2.2)) fun d_13 => .ok (d_13, s_7.1))) (fun _ => stuck)))))
noncomputable def b__law_box : EvS := (mSeq (mAsg (mOp ixD (mOp ixD (mVar 0) (mC (.int 0))) (mVar 1)) (gT (gsC (gN 3) (gsC (gN 4) (gsC (gN 5) (gsC (gN 6) (gsC (gN 7) (gsC (gN 8) gsN)))))) 6)) (mSeq (mSet 9 (mIf (mCmp (inD false) (mVar 2) (mTup (mCons (mC (.int 0)) (mCons (mC (.int 2)) mNil)))) (mVar 4) (mOp subD (mVar 4) (mVar 6)))) (mSeq (mSet 10 (mIf (mCmp (inD false) (mVar 2) (mTup (mCons (mC (.int 0)) (mCons (mC (.int 1)) mNil)))) (mVar 5) (mOp subD (mVar 5) (mVar 7)))) (mSeq (mRet (mTup (mCons (mVar 9) (mCons (mVar 10) (mCons (mOp addD (mVar 9) (mVar 6)) (mCons (mOp addD (mVar 10) (mVar 7)) mNil)))))) mNx))))
noncomputable def q__law_box : List D → Res D := m3 fun chart_1 point_2 stand_3 => (bnd (q2 ixD (q2 ixD (.ok chart_1) (.ok (.int 0))) (.ok point_2)) fun d_4 => bnd (pur (unp (.t [.n, .n, .n, .n, .n, .n]) d_4)) (m6 fun name_5 x_6 y_7 width_8 height_9 stands_10 => (bnd (qifs (qcmp (inD false) (.ok stand_3) (qtup (qcons (.ok (.int 0)) (qcons (.ok (.int 2)) qnil)))) (.ok x_6) (q2 subD (.ok x_6) (.ok width_8))) fun (left_11 : D) => (bnd (qifs (qcmp (inD false) (.ok stand_3) (qtup (qcons (.ok (.int 0)) (qcons (.ok (.int 1)) qnil)))) (.ok y_7) (q2 subD (.ok y_7) (.ok height_9))) fun (low_12 : D) => (qtup (qcons (.ok left_11) (qcons (.ok low_12) (qcons (q2 addD (.ok left_11) (.ok width_8)) (qcons (q2 addD (.ok low_12) (.ok height_9)) qnil)))))))))
noncomputable def b__law_boxes : EvS := (mSeq (mRet (mOfL (mComp (mEnum (mVar 1)) [2, 3] (gT (gsC (gN 2) (gsC (gN 3) gsN)) 2) (mC (.bool true)) (mCall 3 q__law_box (mCons (mVar 0) (mCons (mVar 2) (mCons (mVar 3) mNil))))))) mNx)
noncomputable def q__law_boxes : List D → Res D := m2 fun chart_1 layout_2 => (qofL (qcomp (fun d_5 => bnd (pur (unp (.t [.n, .n]) d_5)) (m2 fun point_3 stand_4 => (.ok (.bool true)))) (fun d_5 => bnd (pur (unp (.t [.n, .n]) d_5)) (m2 fun point_3 stand_4 => (qcall 3 q__law_box (qcons (.ok chart_1) (qcons (.ok point_3) (qcons (.ok stand_4) qnil)))))) (qenum (.ok layout_2))))
noncomputable def b__law_meet : EvS := (mSeq (mSet 2 (mOp subD (mDs min2D (mCons (mOp ixD (mVar 0) (mC (.int 2))) (mCons (mOp ixD (mVar 1) (mC (.int 2))) mNil))) (mDs max2D (mCons (mOp ixD (mVar 0) (mC (.int 0))) (mCons (mOp ixD (mVar 1) (mC (.int 0))) mNil))))) (mSeq (mRet (mAnd (mCmp gtD (mVar 2) (mC (.int 0))) (mCmp gtD (mOp subD (mDs min2D (mCons (mOp ixD (mVar 0) (mC (.int 3))) (mCons (mOp ixD (mVar 1) (mC (.int 3))) mNil))) (mDs max2D (mCons (mOp ixD (mVar 0) (mC (.int 1))) (mCons (mOp ixD (mVar 1) (mC (.int 1))) mNil)))) (mC (.int 0))))) mNx))
noncomputable def q__law_meet : List D → Res D := m2 fun one_1 other_2 => (bnd (q2 subD (qds min2D (qcons (q2 ixD (.ok one_1) (.ok (.int 2))) (qcons (q2 ixD (.ok other_2) (.ok (.int 2))) qnil))) (qds max2D (qcons (q2 ixD (.ok one_1) (.ok (.int 0))) (qcons (q2 ixD (.ok other_2) (.ok (.int 0))) qnil)))) fun (wide_3 : D) => (qand (qcmp gtD (.ok wide_3) (.ok (.int 0))) (qcmp gtD (q2 subD (qds min2D (qcons (q2 ixD (.ok one_1) (.ok (.int 3))) (qcons (q2 ixD (.ok other_2) (.ok (.int 3))) qnil))) (qds max2D (qcons (q2 ixD (.ok one_1) (.ok (.int 1))) (qcons (q2 ixD (.ok other_2) (.ok (.int 1))) qnil)))) (.ok (.int 0)))))
noncomputable def b__law_names : EvS := (mSeq (mRet (mSl (mCallB 2 q__law_mixed 0 (mCons (mOfL (mLst (mCons (mC (.str ("york" : Str))) (mCons (mC (.str ("hull" : Str))) (mCons (mC (.str ("ripon" : Str))) (mCons (mC (.str ("leeds" : Str))) (mCons (mC (.str ("x" : Str))) (mCons (mC (.str ("zz" : Str))) (mCons (mC (.str ("abcdefgh" : Str))) (mCons (mC (.str ("q" : Str))) (mCons (mC (.str ("dale" : Str))) (mCons (mC (.str ("wick" : Str))) mNil)))))))))))) mNil)) mNo (mSo (mVar 1)))) mNx)
noncomputable def q__law_names : List D → List D → Res (D × List D) := fun bag_1 => m1 fun many_2 => (setX (xsl (xcallB 2 q__law_mixed (fun (s : List D) => s) (fun (s : List D) l => l) (xl bag_1 (qcons (qofL (qlst (qcons (.ok (.str ("york" : Str))) (qcons (.ok (.str ("hull" : Str))) (qcons (.ok (.str ("ripon" : Str))) (qcons (.ok (.str ("leeds" : Str))) (qcons (.ok (.str ("x" : Str))) (qcons (.ok (.str ("zz" : Str))) (qcons (.ok (.str ("abcdefgh" : Str))) (qcons (.ok (.str ("q" : Str))) (qcons (.ok (.str ("dale" : Str))) (qcons (.ok (.str ("wick" : Str))) qnil)))))))))))) qnil))) (fun (s_3 : List D) => (xl s_3 qno)) (fun (s_4 : List D) => (xl s_4 (qso (.ok many_2))))) fun p_6 (s_7 : List D) => .ok (p_6, s_7))
noncomputable def b__law_stands : EvS := (mSeq (mRet (mV tupS (mView (mOfL (mVL sortS (mView (mSl (mCallB 2 q__law_mixed 0 (mCons (mOfL (mLst (mCons (mC (.int 0)) (mCons (mC (.int 1)) (mCons (mC (.int 2)) (mCons (mC (.int 3)) mNil)))))) mNil)) mNo (mSo (mOp addD (mC (.int 1)) (mCallB 2 q__law_take 0 (mCons (mVar 1) mNil))))))))))) mNx)
noncomputable def q__law_stands : List D → List D → Res (D × List D) := fun bag_1 => m1 fun most_2 => (setX (xv tupS (x1 seqD (xofL (xv sortS (x1 seqD (xsl (xcallB 2 q__law_mixed (fun (s : List D) => s) (fun (s : List D) l => l) (xl bag_1 (qcons (qofL (qlst (qcons (.ok (.int 0)) (qcons (.ok (.int 1)) (qcons (.ok (.int 2)) (qcons (.ok (.int 3)) qnil)))))) qnil))) (fun (s_3 : List D) => (xl s_3 qno)) (fun (s_4 : List D) => (xso (x2 addD (xl s_4 (.ok (.int 1))) (fun (s_5 : List D) => (xcallB 2 q__law_take (fun (s : List D) => s) (fun (s : List D) l => l) (xl s_5 (qcons (.ok most_2) qnil))))))))))))) fun p_7 (s_8 : List D) => .ok (p_7, s_8))
noncomputable def b__law_chart : EvS := (mSeq (mPar [5, 6] [(.n (mNL (mLst mNil))), (.n (mNL (mLst mNil)))]) (mSeq (mFor (mSeqI (mCallB 2 q__law_names 0 (mCons (mOp addD (mC (.int 1)) (mCallB 2 q__law_take 0 (mCons (mVar 1) mNil))) mNil))) (gN 7) (mSeq (mPar [8, 9] [(.d (mCallB 2 q__law_take 0 (mCons (mVar 4) mNil))), (.d (mCallB 2 q__law_take 0 (mCons (mVar 4) mNil)))]) (mSeq (mSet 10 (mOp addD (mC (.int 1)) (mCallB 2 q__law_take 0 (mCons (mC (.int 6)) mNil)))) (mSeq (mApp 5 (mTup (mCons (mVar 7) (mCons (mVar 8) (mCons (mVar 9) (mCons (mVar 10) (mCons (mOp addD (mC (.int 1)) (mCallB 2 q__law_take 0 (mCons (mC (.int 4)) mNil))) (mCons (mCallB 2 q__law_stands 0 (mCons (mVar 2) mNil)) mNil)))))))) (mKill [7, 8, 9, 10] mNx))))) (mSeq (mFor (mRng1 (mCallB 2 q__law_take 0 (mCons (mOp addD (mVar 3) (mC (.int 1))) mNil))) (gN 11) (mSeq (mPar [12, 13] [(.d (mOp subD (mCallB 2 q__law_take 0 (mCons (mVar 4) mNil)) (mC (.int 2)))), (.d (mOp subD (mCallB 2 q__law_take 0 (mCons (mVar 4) mNil)) (mC (.int 2))))]) (mSeq (mSet 14 (mOp addD (mOp addD (mVar 12) (mC (.int 1))) (mCallB 2 q__law_take 0 (mCons (mC (.int 4)) mNil)))) (mSeq (mApp 6 (mTup (mCons (mVar 12) (mCons (mVar 13) (mCons (mVar 14) (mCons (mOp addD (mOp addD (mVar 13) (mC (.int 1))) (mCallB 2 q__law_take 0 (mCons (mC (.int 4)) mNil))) mNil)))))) (mKill [11, 12, 13, 14] mNx))))) (mSeq (mRet (mTup (mCons (mV tupS (mOwn 5)) (mCons (mV tupS (mOwn 6)) mNil)))) mNx))))
noncomputable def q__law_chart : List D → List D → Res (D × List D) := fun bag_1 => m4 fun points_2 most_3 bars_4 room_5 => (bnd (qlst qnil) fun (found_6 : List D) => (bnd (qlst qnil) fun (boxes_7 : List D) => (forX1 (foldQ (fun (s_9 : List D × List D) name_16 => (par2X (xcallB 2 q__law_take (fun (s : List D) => s) (fun (s : List D) l => l) (xl s_9.1 (qcons (.ok room_5) qnil))) (fun (s_19 : List D) => (xcallB 2 q__law_take (fun (s : List D) => s) (fun (s : List D) l => l) (xl s_19 (qcons (.ok room_5) qnil)))) fun x_21 y_22 (s_23 : List D) => (setX (x2 addD (xl s_23 (.ok (.int 1))) (fun (s_25 : List D) => (xcallB 2 q__law_take (fun (s : List D) => s) (fun (s : List D) l => l) (xl s_25 (qcons (.ok (.int 6)) qnil))))) fun width_24 (s_27 : List D) => (appX (fun (s_39 : List D) => s_9.2) (xtup (xcons (xl s_27 (.ok name_16)) (fun (s_31 : List D) => (xcons (xl s_31 (.ok x_21)) (fun (s_32 : List D) => (xcons (xl s_32 (.ok y_22)) (fun (s_33 : List D) => (xcons (xl s_33 (.ok width_24)) (fun (s_34 : List D) => (xcons (x2 addD (xl s_34 (.ok (.int 1))) (fun (s_35 : List D) => (xcallB 2 q__law_take (fun (s : List D) => s) (fun (s : List D) l => l) (xl s_35 (qcons (.ok (.int 4)) qnil))))) (fun (s_36 : List D) => (xcons (xcallB 2 q__law_stands (fun (s : List D) => s) (fun (s : List D) l => l) (xl s_36 (qcons (.ok most_3) qnil))) (fun (s_37 : List D) => (xl s_37 qnil)))))))))))))) fun (s_39 : List D) found_29 => (.ok (s_39, found_29))))))) (fun (t_15 : List D) => (t_15, found_6)) (xseq (xcallB 2 q__law_names (fun (s : List D) => s) (fun (s : List D) l => l) (xcons (x2 addD (xl bag_1 (.ok (.int 1))) (fun (s_11 : List D) => (xcallB 2 q__law_take (fun (s : List D) => s) (fun (s : List D) l => l) (xl s_11 (qcons (.ok points_2) qnil))))) (fun (s_12 : List D) => (xl s_12 qnil))))) fun (s_10 : List D × List D) => (forX1 (foldQ (fun (s_42 : List D × List D) bar_47 => (par2X (x2 subD (xcallB 2 q__law_take (fun (s : List D) => s) (fun (s : List D) l => l) (xl s_42.1 (qcons (.ok room_5) qnil))) (fun (s_48 : List D) => (xl s_48 (.ok (.int 2))))) (fun (s_51 : List D) => (x2 subD (xcallB 2 q__law_take (fun (s : List D) => s) (fun (s : List D) l => l) (xl s_51 (qcons (.ok room_5) qnil))) (fun (s_52 : List D) => (xl s_52 (.ok (.int 2)))))) fun left_54 low_55 (s_56 : List D) => (setX (x2 addD (xl s_56 (q2 addD (.ok left_54) (.ok (.int 1)))) (fun (s_58 : List D) => (xcallB 2 q__law_take (fun (s : List D) => s) (fun (s : List D) l => l) (xl s_58 (qcons (.ok (.int 4)) qnil))))) fun right_57 (s_60 : List D) => (appX (fun (s_70 : List D) => s_42.2) (xtup (xcons (xl s_60 (.ok left_54)) (fun (s_64 : List D) => (xcons (xl s_64 (.ok low_55)) (fun (s_65 : List D) => (xcons (xl s_65 (.ok right_57)) (fun (s_66 : List D) => (xcons (x2 addD (xl s_66 (q2 addD (.ok low_55) (.ok (.int 1)))) (fun (s_67 : List D) => (xcallB 2 q__law_take (fun (s : List D) => s) (fun (s : List D) l => l) (xl s_67 (qcons (.ok (.int 4)) qnil))))) (fun (s_68 : List D) => (xl s_68 qnil)))))))))) fun (s_70 : List D) boxes_62 => (.ok (s_70, boxes_62))))))) (fun (t_46 : List D) => (t_46, boxes_7)) (x1 rng1 (xcallB 2 q__law_take (fun (s : List D) => s) (fun (s : List D) l => l) (xl s_10.1 (qcons (q2 addD (.ok bars_4) (.ok (.int 1))) qnil)))) fun (s_43 : List D × List D) => (bnd (qtup (qcons (qv tupS (.ok (false, s_10.2))) (qcons (qv tupS (.ok (false, s_43.2))) qnil))) fun d_72 => .ok (d_72, s_43.1))))))
noncomputable def b__law_drawn_layout : EvS := (mSeq (mRet (mV tupS (mView (mOfL (mComp (mSeqI (mOp ixD (mVar 1) (mC (.int 0)))) [2] (gN 2) (mC (.bool true)) (mCallB 2 q__law_some 0 (mCons (mOfL (mVL lstS (mView (mOp ixD (mVar 2) (mC (.int 5)))))) mNil))))))) mNx)
noncomputable def q__law_drawn_layout : List D → List D → Res (D × List D) := fun bag_1 => m1 fun chart_2 => (setX (xv tupS (x1 seqD (xofL (xcomp (fun (s_3 : List D) row_4 => (xl s_3 (.ok (.bool true)))) (fun (s_3 : List D) row_4 => (xcallB 2 q__law_some (fun (s : List D) => s) (fun (s : List D) l => l) (xl s_3 (qcons (qofL (qv lstS (qview (q2 ixD (.ok row_4) (.ok (.int 5)))))) qnil)))) (xl bag_1 (qseq (q2 ixD (.ok chart_2) (.ok (.int 0))))))))) fun p_6 (s_7 : List D) => .ok (p_6, s_7))
noncomputable def k__law_heard : D → Res D := (kTold ("told" : Str))
noncomputable def l__law_heard : List Hd := [⟨[(("NamesError" : Str), false), (("Refused" : Str), true)], (some 1), (mSeq (mRet (mTup (mCons (mC (.str ("refused" : Str))) (mCons (mFld 1 ("why" : Str) [("Refused" : Str)]) mNil)))) mNx)⟩]
noncomputable def q__law_heard : Res D → Res D := qHlp k__law_heard (fun c_2 fs_3 => (qHd [(("NamesError" : Str), false), (("Refused" : Str), true)] c_2 (qtup (qcons (.ok (.str ("refused" : Str))) (qcons (qfld c_2 fs_3 ("why" : Str) [("Refused" : Str)]) qnil))) (.error (.exc c_2 fs_3 []))))
noncomputable def b__law_zoomed : EvS := (mSeq (mAsg (mOp ixD (mOp ixD (mVar 0) (mC (.int 0))) (mVar 2)) (gT (gsC (gN 4) (gsC (gN 5) (gsC (gN 6) (gsC (gN 7) (gsC (gN 8) (gsC (gN 9) gsN)))))) 6)) (mSeq (mSet 10 (mIf (mCmp (inD false) (mOp ixD (mVar 1) (mVar 2)) (mTup (mCons (mC (.int 0)) (mCons (mC (.int 2)) mNil)))) (mOp mulD (mVar 5) (mVar 3)) (mOp subD (mOp mulD (mVar 5) (mVar 3)) (mVar 7)))) (mSeq (mSet 11 (mIf (mCmp (inD false) (mOp ixD (mVar 1) (mVar 2)) (mTup (mCons (mC (.int 0)) (mCons (mC (.int 1)) mNil)))) (mOp mulD (mVar 6) (mVar 3)) (mOp subD (mOp mulD (mVar 6) (mVar 3)) (mVar 8)))) (mSeq (mRet (mTup (mCons (mVar 10) (mCons (mVar 11) (mCons (mOp addD (mVar 10) (mVar 7)) (mCons (mOp addD (mVar 11) (mVar 8)) mNil)))))) mNx))))
noncomputable def q__law_zoomed : List D → Res D := m4 fun chart_1 layout_2 point_3 zoom_4 => (bnd (q2 ixD (q2 ixD (.ok chart_1) (.ok (.int 0))) (.ok point_3)) fun d_5 => bnd (pur (unp (.t [.n, .n, .n, .n, .n, .n]) d_5)) (m6 fun name_6 x_7 y_8 width_9 height_10 stands_11 => (bnd (qifs (qcmp (inD false) (q2 ixD (.ok layout_2) (.ok point_3)) (qtup (qcons (.ok (.int 0)) (qcons (.ok (.int 2)) qnil)))) (q2 mulD (.ok x_7) (.ok zoom_4)) (q2 subD (q2 mulD (.ok x_7) (.ok zoom_4)) (.ok width_9))) fun (left_12 : D) => (bnd (qifs (qcmp (inD false) (q2 ixD (.ok layout_2) (.ok point_3)) (qtup (qcons (.ok (.int 0)) (qcons (.ok (.int 1)) qnil)))) (q2 mulD (.ok y_8) (.ok zoom_4)) (q2 subD (q2 mulD (.ok y_8) (.ok zoom_4)) (.ok height_10))) fun (low_13 : D) => (qtup (qcons (.ok left_12) (qcons (.ok low_13) (qcons (q2 addD (.ok left_12) (.ok width_9)) (qcons (q2 addD (.ok low_13) (.ok height_10)) qnil)))))))))
noncomputable def b__law_hit : EvS := (mSeq (mRet (mCall 2 q__law_meet (mCons (mCall 4 q__law_zoomed (mCons (mVar 0) (mCons (mVar 1) (mCons (mVar 2) (mCons (mVar 4) mNil))))) (mCons (mCall 4 q__law_zoomed (mCons (mVar 0) (mCons (mVar 1) (mCons (mVar 3) (mCons (mVar 4) mNil))))) mNil)))) mNx)
noncomputable def q__law_hit : List D → Res D := m5 fun chart_1 layout_2 one_3 other_4 zoom_5 => (qcall 2 q__law_meet (qcons (qcall 4 q__law_zoomed (qcons (.ok chart_1) (qcons (.ok layout_2) (qcons (.ok one_3) (qcons (.ok zoom_5) qnil))))) (qcons (qcall 4 q__law_zoomed (qcons (.ok chart_1) (qcons (.ok layout_2) (qcons (.ok other_4) (qcons (.ok zoom_5) qnil))))) qnil)))
noncomputable def b__law_parted : EvS := (mSeq (mSet 4 (mOfL (mComp (mRng2 (mC (.int 1)) (mC (.int 41))) [5] (gN 5) (mNot (mCall 5 q__law_hit (mCons (mVar 0) (mCons (mVar 1) (mCons (mVar 2) (mCons (mVar 3) (mCons (mVar 5) mNil))))))) (mVar 5)))) (mSeq (mRet (mIf (mCmp neD (mVar 4) (mOfL (mLst mNil))) (mOp ixD (mVar 4) (mC (.int 0))) (mC .none))) mNx))
noncomputable def q__law_parted : List D → Res D := m4 fun chart_1 layout_2 one_3 other_4 => (bnd (qofL (qcomp (fun zoom_6 => (qnot (qcall 5 q__law_hit (qcons (.ok chart_1) (qcons (.ok layout_2) (qcons (.ok one_3) (qcons (.ok other_4) (qcons (.ok zoom_6) qnil)))))))) (fun zoom_6 => (.ok zoom_6)) (qrng2 (.ok (.int 1)) (.ok (.int 41))))) fun (some_5 : D) => (qifs (qcmp neD (.ok some_5) (qofL (qlst qnil))) (q2 ixD (.ok some_5) (.ok (.int 0))) (.ok .none)))
noncomputable def k__law_refuses : D → Res D := kFalse
noncomputable def l__law_refuses : List Hd := [⟨[(("NamesError" : Str), false), (("Refused" : Str), true)], (some 1), (mSeq (mRet (mCmp eqD (mFld 1 ("why" : Str) [("Refused" : Str)]) (mC (.str ("stands" : Str))))) mNx)⟩]
noncomputable def b_stands_of : EvS := (mSeq (mRet (mOp ixD (mOp ixD (mOp ixD (mVar 0) (mC (.int 0))) (mVar 1)) (mC (.int 5)))) mNx)
noncomputable def q_stands_of : List D → Res D := m2 fun chart_1 point_2 => (q2 ixD (q2 ixD (q2 ixD (.ok chart_1) (.ok (.int 0))) (.ok point_2)) (.ok (.int 5)))
noncomputable def b_need_two : EvS := (mSeq (mIfS (mV anyS (mView (mOfL (mComp (mRng1 (mV lenS (mView (mOp ixD (mVar 0) (mC (.int 0)))))) [1] (gN 1) (mC (.bool true)) (mCmp gtD (mV lenS (mView (mCall 2 q_stands_of (mCons (mVar 0) (mCons (mVar 1) mNil))))) (mC (.int 2))))))) (mSeq (mRaise ("Refused" : Str) [("why" : Str)] (mCons (mC (.str ("stands" : Str))) mNil)) mNx) mNx) mNx)
noncomputable def q_need_two : List D → Res D := m1 fun chart_1 => (qifs (qv anyS (qview (qofL (qcomp (fun point_2 => (.ok (.bool true))) (fun point_2 => (qcmp gtD (qv lenS (qview (qcall 2 q_stands_of (qcons (.ok chart_1) (qcons (.ok point_2) qnil))))) (.ok (.int 2)))) (qrng1 (qv lenS (qview (q2 ixD (.ok chart_1) (.ok (.int 0)))))))))) (qraise ("Refused" : Str) [("why" : Str)] (qcons (.ok (.str ("stands" : Str))) qnil)) (.ok .none))
noncomputable def b_box_at : EvS := (mSeq (mSet 5 (mIf (mCmp (inD false) (mVar 4) (mTup (mCons (mC (.int 0)) (mCons (mC (.int 2)) mNil)))) (mVar 0) (mOp subD (mVar 0) (mVar 2)))) (mSeq (mSet 6 (mIf (mCmp (inD false) (mVar 4) (mTup (mCons (mC (.int 0)) (mCons (mC (.int 1)) mNil)))) (mVar 1) (mOp subD (mVar 1) (mVar 3)))) (mSeq (mRet (mTup (mCons (mVar 5) (mCons (mVar 6) (mCons (mOp addD (mVar 5) (mVar 2)) (mCons (mOp addD (mVar 6) (mVar 3)) mNil)))))) mNx)))
noncomputable def q_box_at : List D → Res D := m5 fun x_1 y_2 width_3 height_4 stand_5 => (bnd (qifs (qcmp (inD false) (.ok stand_5) (qtup (qcons (.ok (.int 0)) (qcons (.ok (.int 2)) qnil)))) (.ok x_1) (q2 subD (.ok x_1) (.ok width_3))) fun (left_6 : D) => (bnd (qifs (qcmp (inD false) (.ok stand_5) (qtup (qcons (.ok (.int 0)) (qcons (.ok (.int 1)) qnil)))) (.ok y_2) (q2 subD (.ok y_2) (.ok height_4))) fun (low_7 : D) => (qtup (qcons (.ok left_6) (qcons (.ok low_7) (qcons (q2 addD (.ok left_6) (.ok width_3)) (qcons (q2 addD (.ok low_7) (.ok height_4)) qnil)))))))
noncomputable def b_box_of : EvS := (mSeq (mAsg (mOp ixD (mOp ixD (mVar 0) (mC (.int 0))) (mVar 1)) (gT (gsC (gN 3) (gsC (gN 4) (gsC (gN 5) (gsC (gN 6) (gsC (gN 7) (gsC (gN 8) gsN)))))) 6)) (mSeq (mRet (mCall 5 q_box_at (mCons (mVar 4) (mCons (mVar 5) (mCons (mVar 6) (mCons (mVar 7) (mCons (mVar 2) mNil))))))) mNx))
noncomputable def q_box_of : List D → Res D := m3 fun chart_1 point_2 stand_3 => (bnd (q2 ixD (q2 ixD (.ok chart_1) (.ok (.int 0))) (.ok point_2)) fun d_4 => bnd (pur (unp (.t [.n, .n, .n, .n, .n, .n]) d_4)) (m6 fun name_5 x_6 y_7 width_8 height_9 stands_10 => (qcall 5 q_box_at (qcons (.ok x_6) (qcons (.ok y_7) (qcons (.ok width_8) (qcons (.ok height_9) (qcons (.ok stand_3) qnil))))))))
noncomputable def b_do_clash : EvS := (mSeq (mRet (mAnd (mCmp ltD (mOp ixD (mVar 0) (mC (.int 0))) (mOp ixD (mVar 1) (mC (.int 2)))) (mAnd (mCmp ltD (mOp ixD (mVar 1) (mC (.int 0))) (mOp ixD (mVar 0) (mC (.int 2)))) (mAnd (mCmp ltD (mOp ixD (mVar 0) (mC (.int 1))) (mOp ixD (mVar 1) (mC (.int 3)))) (mCmp ltD (mOp ixD (mVar 1) (mC (.int 1))) (mOp ixD (mVar 0) (mC (.int 3)))))))) mNx)
noncomputable def q_do_clash : List D → Res D := m2 fun one_1 other_2 => (qand (qcmp ltD (q2 ixD (.ok one_1) (.ok (.int 0))) (q2 ixD (.ok other_2) (.ok (.int 2)))) (qand (qcmp ltD (q2 ixD (.ok other_2) (.ok (.int 0))) (q2 ixD (.ok one_1) (.ok (.int 2)))) (qand (qcmp ltD (q2 ixD (.ok one_1) (.ok (.int 1))) (q2 ixD (.ok other_2) (.ok (.int 3)))) (qcmp ltD (q2 ixD (.ok other_2) (.ok (.int 1))) (q2 ixD (.ok one_1) (.ok (.int 3)))))))
noncomputable def b_is_integer : EvS := (mSeq (mRet (mAnd (mIsi .int (mVar 0)) (mNot (mIsi .bool (mVar 0))))) mNx)
noncomputable def q_is_integer : List D → Res D := m1 fun thing_1 => (qand (qisi .int (.ok thing_1)) (qnot (qisi .bool (.ok thing_1))))
noncomputable def b_zoomed : EvS := (mSeq (mAsg (mOp ixD (mOp ixD (mVar 0) (mC (.int 0))) (mVar 2)) (gT (gsC (gN 4) (gsC (gN 5) (gsC (gN 6) (gsC (gN 7) (gsC (gN 8) (gsC (gN 9) gsN)))))) 6)) (mSeq (mRet (mCall 5 q_box_at (mCons (mOp mulD (mVar 5) (mVar 3)) (mCons (mOp mulD (mVar 6) (mVar 3)) (mCons (mVar 7) (mCons (mVar 8) (mCons (mOp ixD (mVar 1) (mVar 2)) mNil))))))) mNx))
noncomputable def q_zoomed : List D → Res D := m4 fun chart_1 layout_2 point_3 zoom_4 => (bnd (q2 ixD (q2 ixD (.ok chart_1) (.ok (.int 0))) (.ok point_3)) fun d_5 => bnd (pur (unp (.t [.n, .n, .n, .n, .n, .n]) d_5)) (m6 fun name_6 x_7 y_8 width_9 height_10 stands_11 => (qcall 5 q_box_at (qcons (q2 mulD (.ok x_7) (.ok zoom_4)) (qcons (q2 mulD (.ok y_8) (.ok zoom_4)) (qcons (.ok width_9) (qcons (.ok height_10) (qcons (q2 ixD (.ok layout_2) (.ok point_3)) qnil))))))))
noncomputable def b_are_in_the_way : EvS := (mSeq (mRet (mCall 2 q_do_clash (mCons (mCall 4 q_zoomed (mCons (mVar 0) (mCons (mVar 1) (mCons (mVar 2) (mCons (mVar 4) mNil))))) (mCons (mCall 4 q_zoomed (mCons (mVar 0) (mCons (mVar 1) (mCons (mVar 3) (mCons (mVar 4) mNil))))) mNil)))) mNx)
noncomputable def q_are_in_the_way : List D → Res D := m5 fun chart_1 layout_2 one_3 other_4 zoom_5 => (qcall 2 q_do_clash (qcons (qcall 4 q_zoomed (qcons (.ok chart_1) (qcons (.ok layout_2) (qcons (.ok one_3) (qcons (.ok zoom_5) qnil))))) (qcons (qcall 4 q_zoomed (qcons (.ok chart_1) (qcons (.ok layout_2) (qcons (.ok other_4) (qcons (.ok zoom_5) qnil))))) qnil)))
noncomputable def b_boxes_by : EvS := (mSeq (mRet (mV tupS (mView (mOfL (mComp (mEnum (mVar 1)) [2, 3] (gT (gsC (gN 2) (gsC (gN 3) gsN)) 2) (mC (.bool true)) (mCall 3 q_box_of (mCons (mVar 0) (mCons (mVar 2) (mCons (mVar 3) mNil))))))))) mNx)
noncomputable def q_boxes_by : List D → Res D := m2 fun chart_1 layout_2 => (qv tupS (qview (qofL (qcomp (fun d_5 => bnd (pur (unp (.t [.n, .n]) d_5)) (m2 fun point_3 stand_4 => (.ok (.bool true)))) (fun d_5 => bnd (pur (unp (.t [.n, .n]) d_5)) (m2 fun point_3 stand_4 => (qcall 3 q_box_of (qcons (.ok chart_1) (qcons (.ok point_3) (qcons (.ok stand_4) qnil)))))) (qenum (.ok layout_2))))))
noncomputable def b_is_within : EvS := (mSeq (mRet (mAnd (mCall 1 q_is_integer (mCons (mVar 0) mNil)) (mChain leD leD (mVar 1) (mVar 0) (mVar 2)))) mNx)
noncomputable def q_is_within : List D → Res D := m3 fun thing_1 least_2 most_3 => (qand (qcall 1 q_is_integer (qcons (.ok thing_1) qnil)) (qch leD leD (.ok least_2) (.ok thing_1) (.ok most_3)))
noncomputable def b_need_bare : EvS := (mSeq (mIfS (mCmp neD (mOp ixD (mVar 0) (mC (.int 1))) (mTup mNil)) (mSeq (mRaise ("Refused" : Str) [("why" : Str)] (mCons (mC (.str ("bars" : Str))) mNil)) mNx) mNx) mNx)
noncomputable def q_need_bare : List D → Res D := m1 fun chart_1 => (qifs (qcmp neD (q2 ixD (.ok chart_1) (.ok (.int 1))) (qtup qnil)) (qraise ("Refused" : Str) [("why" : Str)] (qcons (.ok (.str ("bars" : Str))) qnil)) (.ok .none))
noncomputable def b_need_point : EvS := (mSeq (mIfS (mNot (mCall 3 q_is_within (mCons (mVar 1) (mCons (mC (.int 0)) (mCons (mOp subD (mV lenS (mView (mOp ixD (mVar 0) (mC (.int 0))))) (mC (.int 1))) mNil))))) (mSeq (mRaise ("NoPoint" : Str) [("name" : Str)] (mCons (mVar 1) mNil)) mNx) mNx) mNx)
noncomputable def q_need_point : List D → Res D := m2 fun chart_1 point_2 => (qifs (qnot (qcall 3 q_is_within (qcons (.ok point_2) (qcons (.ok (.int 0)) (qcons (q2 subD (qv lenS (qview (q2 ixD (.ok chart_1) (.ok (.int 0))))) (.ok (.int 1))) qnil))))) (qraise ("NoPoint" : Str) [("name" : Str)] (qcons (.ok point_2) qnil)) (.ok .none))
noncomputable def b_parting : EvS := (mSeq (mPar [4, 5] [(.d (mC (.int 1))), (.d (mC (.int 20000)))]) (mSeq (mIfS (mCall 5 q_are_in_the_way (mCons (mVar 0) (mCons (mVar 1) (mCons (mVar 2) (mCons (mVar 3) (mCons (mVar 5) mNil)))))) (mSeq (mRet (mC .none)) mNx) mNx) (mSeq (mWhile (mCmp ltD (mVar 4) (mVar 5)) (mSeq (mSet 6 (mOp fdivD (mOp addD (mVar 4) (mVar 5)) (mC (.int 2)))) (mSeq (mAsg (mIf (mCall 5 q_are_in_the_way (mCons (mVar 0) (mCons (mVar 1) (mCons (mVar 2) (mCons (mVar 3) (mCons (mVar 6) mNil)))))) (mTup (mCons (mOp addD (mVar 6) (mC (.int 1))) (mCons (mVar 5) mNil))) (mTup (mCons (mVar 4) (mCons (mVar 6) mNil)))) (gT (gsC (gN 4) (gsC (gN 5) gsN)) 2)) (mKill [6] mNx)))) (mSeq (mRet (mVar 4)) mNx))))
noncomputable def q_parting : List D → Res D := m4 fun chart_1 layout_2 one_3 other_4 => (bnd (.ok (.int 1)) fun low_5 => (bnd (.ok (.int 20000)) fun high_6 => (qifs (qcall 5 q_are_in_the_way (qcons (.ok chart_1) (qcons (.ok layout_2) (qcons (.ok one_3) (qcons (.ok other_4) (qcons (.ok high_6) qnil)))))) (.ok .none) (bnd (whileQ (fun (s_8 : D × D) => (qcmp ltD (.ok s_8.1) (.ok s_8.2))) (fun (s_8 : D × D) => (bnd (q2 fdivD (q2 addD (.ok s_8.1) (.ok s_8.2)) (.ok (.int 2))) fun (middle_10 : D) => (bnd (qifs (qcall 5 q_are_in_the_way (qcons (.ok chart_1) (qcons (.ok layout_2) (qcons (.ok one_3) (qcons (.ok other_4) (qcons (.ok middle_10) qnil)))))) (qtup (qcons (q2 addD (.ok middle_10) (.ok (.int 1))) (qcons (.ok s_8.2) qnil))) (qtup (qcons (.ok s_8.1) (qcons (.ok middle_10) qnil)))) fun d_11 => bnd (pur (unp (.t [.n, .n]) d_11)) (m2 fun low_12 high_13 => (.ok (.nx (low_12, high_13))))))) (low_5, high_6)) (qCn (fun (s_9 : D × D) => (.ok s_9.1)) (fun _ => stuck))))))
end L2.DL.Cm

namespace L2.DL.Cm
open PySem PySem.Spec PyProof.Rows
theorem s__law_alike : ∀ ds, RefR (fnP 6 b__law_alike ds) (q__law_alike ds) := rm2 fun found_1 due_2 => ref_P (sOne (sAss (sPar_ld (eLst (eCons (eTup (eCons (eV rfl) (eCons (eV rfl) eNil))) eNil)) eC fun pairs_3 at_4 => (sAss (sWhile (R := (fun (r_5 : List D × D) => [some (.dat found_1), some (.dat due_2), some (.ob false (.lst r_5.1)), some (.dat r_5.2), none, none])) rfl (fun s_6 => (eCmp (eV rfl) (eMV (eOwn rfl)))) (fun s_6 => sOne (sAss (sAsg (N := 6) (eIxO rfl (eV rfl)) (tg_t (tgs_c (tg_n (N := 6)) (tgs_c (tg_n (N := 6)) tgs_n))) (sm2 fun one_9 other_10 => (sAss (sAug rfl eC fun at_11 => (sAss (sIf (eOr (eCmp (eIsi (eV rfl)) (eIsi (eV rfl))) (eCmp (eIsi (eV rfl)) (eIsi (eV rfl)))) (sAss (sRet (r := fun d_12 => Cn.rt d_12) eC fun _ => rfl)) (sNx' (sAss (sIf (eCmp (eIsiT (eV rfl)) (eIsiT (eV rfl))) (sAss (sRet (r := fun d_13 => Cn.rt d_13) eC fun _ => rfl)) (sNx' (sAss (sIf (eIsiT (eV rfl)) (sAss (sIf (eOr (eCmp (eIsi (eV rfl)) (eIsi (eV rfl))) (eCmp (eMV (eView (eV rfl))) (eMV (eView (eV rfl))))) (sAss (sRet (r := fun d_14 => Cn.rt d_14) eC fun _ => rfl)) (sNx' (sAss (sExt rfl (eZip (eV rfl) (eV rfl)) fun pairs_15 => (sNx' (sKill (sNx' (sNx (cnvNx rfl)))))))))) (sAss (sIf (eCmp (eV rfl) (eV rfl)) (sAss (sRet (r := fun d_17 => Cn.rt d_17) eC fun _ => rfl)) (sNx' (sNx' (sKill (sNx' (sNx (cnvNx rfl)))))))))))))))))))))) (fun s_7 => (sAss (sRetP eC fun _ => .inl rfl))) (fun _ _ => ⟨_, _, rfl, .inl rfl⟩))))))
theorem s__law_bag : ∀ ds, RefR (fnL 2 b__law_bag ds) (q__law_bag ds) := rm1 fun script_1 => ref_L (eLst (eCons eC (eCons eC (eCons eC (eCons (eOfL (eComp1 (N := 2) (eSeqI (eSl (eV rfl) eNo (eSo eC))) (fun cell_2 => eC) (fun cell_2 => (eDs (eCons (eV rfl) eNil))))) eNil)))))
theorem s__law_take : ∀ xs ds p, q__law_take xs ds = .ok p → fnB 7 b__law_take xs ds = .ok p := fun bag_1 => bm1 fun many_2 p e => ref_B e (sOne (sAss (sJoin (R := (fun (r_19 : List D) => [some (.ob true (.lst r_19)), some (.dat many_2), none, none, none, none, none])) (sIf (eCmp (eIxO rfl eC) eC) (sAss (sSet (eOp (eOp (eSl (eIxO rfl eC) (eSo (eIxO rfl eC)) eNo) (eOfL (eLst (eCons eC eNil)))) eC) fun cell_3 => (sAss (sAugS rfl eC eC fun bag_4 => (sAss (sJoin (R := (fun (r_13 : List D) => [some (.ob true (.lst r_13)), some (.dat many_2), some (.dat cell_3), none, none, none, none])) (sIf (eCmp (eV rfl) (eOp eC eC)) (sAss (sStore rfl (eV rfl) eC fun bag_9 => (sNx' (sNx ⟨rfl, rfl⟩)))) (sNx' (sNx ⟨rfl, rfl⟩))) fun s_12 => (sAss (sSet (eOp (eOp (eOp (eIxO rfl eC) eC) (eOp (eDs (eCons (eV rfl) eNil)) eC)) (eOp eC (eIxO rfl eC))) fun stirred_14 => (sAss (sStore rfl (eOp (eDs (eCons (eV rfl) eNil)) eC) eC fun bag_15 => (sKill (sNx' (sNx ⟨rfl, rfl⟩))))))))))))) (sNx' (sNx ⟨rfl, rfl⟩))) fun s_18 => (sAss (sIf (eCmp (eIxO rfl eC) eC) (sAss (sSet (eOp (eDs (eCons (eIxO rfl eC) eNil)) (eV rfl)) fun value_20 => (sAss (sStore rfl (eOp (eDs (eCons (eIxO rfl eC) eNil)) (eV rfl)) eC fun bag_21 => (sAss (sRet (r := fun d_24 => (d_24, bag_21)) (eV rfl) fun _ => ⟨.inl rfl, rfl⟩)))))) (sNx' (sAss (sSet (eOp (eDs (eCons (eOp (eOp (eIxO rfl eC) eC) eC) eNil)) eC) fun begin_25 => (sAss (sSet (eOp (eDs (eCons (eOp (eOp (eDs (eCons (eOp (eV rfl) (eV rfl)) eNil)) eC) eC) eNil)) eC) fun second_26 => (sAss (sRet (r := fun d_27 => (d_27, s_18)) (eOp (eDs (eCons (eOp (eV rfl) eC) eNil)) (eV rfl)) fun _ => ⟨.inl rfl, rfl⟩))))))))))))
theorem s__law_some : ∀ xs ds p, q__law_some xs ds = .ok p → fnB 2 b__law_some xs ds = .ok p := fun bag_1 => bm1 fun things_2 p e => ref_B e (sOne (sAss (sRetX (R := (fun (r_4 : List D) => [some (.ob true (.lst r_4)), some (.dat things_2)])) (r := fun p_5 s_6 => (p_5, s_6)) (xOp (s := bag_1) (xLift (s := bag_1) (eV rfl)) (fun s_3 => (xCallB (s := s_3) (xLift (s := s_3) (eCons (eMV (eView (eV rfl))) eNil))))) fun _ _ => ⟨.inl rfl, rfl⟩)))
theorem s__law_mixed : ∀ xs ds p, q__law_mixed xs ds = .ok p → fnB 4 b__law_mixed xs ds = .ok p := fun bag_1 => bm1 fun things_2 p e => ref_B e (sOne (sAss (sPar_ll (eMVL (eView (eV rfl))) (eLst eNil) fun left_3 found_4 => (sAss (sWhile (R := (fun (r_5 : List D × List D × List D) => [some (.ob true (.lst r_5.1)), some (.dat things_2), some (.ob false (.lst r_5.2.1)), some (.ob false (.lst r_5.2.2))])) rfl (fun s_6 => (eCmpO rfl (eOfL (eLst eNil)))) (fun s_6 => sOne (sAss (sAppX (R := (fun (r_10 : List D × List D) => [some (.ob true (.lst r_10.1)), some (.dat things_2), some (.ob false (.lst r_10.2)), some (.ob false (.lst s_6.2.2))])) (get := (fun (s_11 : List D × List D) => s_6.2.2)) rfl (fun _ => rfl) (xPop (s := (s_6.1, s_6.2.1)) (xCallB (s := (s_6.1, s_6.2.1)) (xLift (s := (s_6.1, s_6.2.1)) (eCons (eMV (eOwn rfl)) eNil)))) fun s_11 found_8 => (sNx' (sNx (cnvNx rfl)))))) (fun s_7 => (sFrz rfl rfl (sAss (sRet (r := fun d_13 => (d_13, s_7.1)) (eV rfl) fun _ => ⟨.inl rfl, rfl⟩)))) (fun _ _ => Sim.no))))))
theorem s__law_box : ∀ ds, RefR (fnP 11 b__law_box ds) (q__law_box ds) := rm3 fun chart_1 point_2 stand_3 => ref_P (sOne (sAss (sAsg (N := 11) (eOp (eOp (eV rfl) eC) (eV rfl)) (tg_t (tgs_c (tg_n (N := 11)) (tgs_c (tg_n (N := 11)) (tgs_c (tg_n (N := 11)) (tgs_c (tg_n (N := 11)) (tgs_c (tg_n (N := 11)) (tgs_c (tg_n (N := 11)) tgs_n))))))) (sm6 fun name_5 x_6 y_7 width_8 height_9 stands_10 => (sAss (sSet (eIf (eCmp (eV rfl) (eTup (eCons eC (eCons eC eNil)))) (eV rfl) (eOp (eV rfl) (eV rfl))) fun left_11 => (sAss (sSet (eIf (eCmp (eV rfl) (eTup (eCons eC (eCons eC eNil)))) (eV rfl) (eOp (eV rfl) (eV rfl))) fun low_12 => (sAss (sRetP (eTup (eCons (eV rfl) (eCons (eV rfl) (eCons (eOp (eV rfl) (eV rfl)) (eCons (eOp (eV rfl) (eV rfl)) eNil))))) fun _ => .inl rfl))))))))))
theorem s__law_boxes : ∀ ds, RefR (fnP 4 b__law_boxes ds) (q__law_boxes ds) := rm2 fun chart_1 layout_2 => ref_P (sOne (sAss (sRetP (eOfL (eCompT (N := 4) (eEnum (eV rfl)) (tg_t (tgs_c (tg_n (N := 4)) (tgs_c (tg_n (N := 4)) tgs_n))) (em2 fun point_3 stand_4 => eC) (em2 fun point_3 stand_4 => (eCall (eCons (eV rfl) (eCons (eV rfl) (eCons (eV rfl) eNil))))))) fun _ => .inl rfl)))
theorem s__law_meet : ∀ ds, RefR (fnP 3 b__law_meet ds) (q__law_meet ds) := rm2 fun one_1 other_2 => ref_P (sOne (sAss (sSet (eOp (eDs (eCons (eOp (eV rfl) eC) (eCons (eOp (eV rfl) eC) eNil))) (eDs (eCons (eOp (eV rfl) eC) (eCons (eOp (eV rfl) eC) eNil)))) fun wide_3 => (sAss (sRetP (eAnd (eCmp (eV rfl) eC) (eCmp (eOp (eDs (eCons (eOp (eV rfl) eC) (eCons (eOp (eV rfl) eC) eNil))) (eDs (eCons (eOp (eV rfl) eC) (eCons (eOp (eV rfl) eC) eNil)))) eC)) fun _ => .inl rfl)))))
theorem s__law_names : ∀ xs ds p, q__law_names xs ds = .ok p → fnB 2 b__law_names xs ds = .ok p := fun bag_1 => bm1 fun many_2 p e => ref_B e (sOne (sAss (sRetX (R := (fun (r_5 : List D) => [some (.ob true (.lst r_5)), some (.dat many_2)])) (r := fun p_6 s_7 => (p_6, s_7)) (xSl (s := bag_1) (xCallB (s := bag_1) (xLift (s := bag_1) (eCons (eOfL (eLst (eCons eC (eCons eC (eCons eC (eCons eC (eCons eC (eCons eC (eCons eC (eCons eC (eCons eC (eCons eC eNil)))))))))))) eNil))) (fun s_3 => (xLift (s := s_3) eNo)) (fun s_4 => (xLift (s := s_4) (eSo (eV rfl))))) fun _ _ => ⟨.inl rfl, rfl⟩)))
theorem s__law_stands : ∀ xs ds p, q__law_stands xs ds = .ok p → fnB 2 b__law_stands xs ds = .ok p := fun bag_1 => bm1 fun most_2 p e => ref_B e (sOne (sAss (sRetX (R := (fun (r_6 : List D) => [some (.ob true (.lst r_6)), some (.dat most_2)])) (r := fun p_7 s_8 => (p_7, s_8)) (xMV (s := bag_1) (xView (s := bag_1) (xOfL (s := bag_1) (xMVL (s := bag_1) (xView (s := bag_1) (xSl (s := bag_1) (xCallB (s := bag_1) (xLift (s := bag_1) (eCons (eOfL (eLst (eCons eC (eCons eC (eCons eC (eCons eC eNil)))))) eNil))) (fun s_3 => (xLift (s := s_3) eNo)) (fun s_4 => (xSo (s := s_4) (xOp (s := s_4) (xLift (s := s_4) eC) (fun s_5 => (xCallB (s := s_5) (xLift (s := s_5) (eCons (eV rfl) eNil))))))))))))) fun _ _ => ⟨.inl rfl, rfl⟩)))
theorem s__law_chart : ∀ xs ds p, q__law_chart xs ds = .ok p → fnB 15 b__law_chart xs ds = .ok p := fun bag_1 => bm4 fun points_2 most_3 bars_4 room_5 p e => ref_B e (sOne (sAss (sPar_ll (eLst eNil) (eLst eNil) fun found_6 boxes_7 => (sAss (sFor1X (R := (fun (r_8 : List D × List D) => [some (.ob true (.lst r_8.1)), some (.dat points_2), some (.dat most_3), some (.dat bars_4), some (.dat room_5), some (.ob false (.lst r_8.2)), some (.ob false (.lst boxes_7)), none, none, none, none, none, none, none, none])) (N := 15) (Ri := (fun (r_13 : List D) => [some (.ob true (.lst r_13)), some (.dat points_2), some (.dat most_3), some (.dat bars_4), some (.dat room_5), some (.ob false (.lst found_6)), some (.ob false (.lst boxes_7)), none, none, none, none, none, none, none, none])) (s0 := fun (t_15 : List D) => (t_15, found_6)) (xSeqI (s := bag_1) (xCallB (s := bag_1) (xCons (s := bag_1) (xOp (s := bag_1) (xLift (s := bag_1) eC) (fun s_11 => (xCallB (s := s_11) (xLift (s := s_11) (eCons (eV rfl) eNil))))) (fun s_12 => (xLift (s := s_12) eNil))))) (fun _ => rfl) (fun s_9 name_16 => sOne (sAss (sPar2X (R := (fun (r_20 : List D) => [some (.ob true (.lst r_20)), some (.dat points_2), some (.dat most_3), some (.dat bars_4), some (.dat room_5), some (.ob false (.lst s_9.2)), some (.ob false (.lst boxes_7)), some (.dat name_16), none, none, none, none, none, none, none])) (xCallB (s := s_9.1) (xLift (s := s_9.1) (eCons (eV rfl) eNil))) (fun s_19 => (xCallB (s := s_19) (xLift (s := s_19) (eCons (eV rfl) eNil)))) fun x_21 y_22 s_23 => (sAss (sSetX (R := (fun (r_26 : List D) => [some (.ob true (.lst r_26)), some (.dat points_2), some (.dat most_3), some (.dat bars_4), some (.dat room_5), some (.ob false (.lst s_9.2)), some (.ob false (.lst boxes_7)), some (.dat name_16), some (.dat x_21), some (.dat y_22), none, none, none, none, none])) (xOp (s := s_23) (xLift (s := s_23) eC) (fun s_25 => (xCallB (s := s_25) (xLift (s := s_25) (eCons eC eNil))))) fun width_24 s_27 => (sAss (sAppX (R := (fun (r_38 : List D) => [some (.ob true (.lst r_38)), some (.dat points_2), some (.dat most_3), some (.dat bars_4), some (.dat room_5), some (.ob false (.lst s_9.2)), some (.ob false (.lst boxes_7)), some (.dat name_16), some (.dat x_21), some (.dat y_22), some (.dat width_24), none, none, none, none])) (get := (fun (s_39 : List D) => s_9.2)) rfl (fun _ => rfl) (xTup (s := s_27) (xCons (s := s_27) (xLift (s := s_27) (eV rfl)) (fun s_31 => (xCons (s := s_31) (xLift (s := s_31) (eV rfl)) (fun s_32 => (xCons (s := s_32) (xLift (s := s_32) (eV rfl)) (fun s_33 => (xCons (s := s_33) (xLift (s := s_33) (eV rfl)) (fun s_34 => (xCons (s := s_34) (xOp (s := s_34) (xLift (s := s_34) eC) (fun s_35 => (xCallB (s := s_35) (xLift (s := s_35) (eCons eC eNil))))) (fun s_36 => (xCons (s := s_36) (xCallB (s := s_36) (xLift (s := s_36) (eCons (eV rfl) eNil))) (fun s_37 => (xLift (s := s_37) eNil)))))))))))))) fun s_39 found_29 => (sKill (sNx' (sNx ⟨.inl rfl, rfl⟩)))))))))) (fun s_10 => (sAss (sFor1X (R := (fun (r_41 : List D × List D) => [some (.ob true (.lst r_41.1)), some (.dat points_2), some (.dat most_3), some (.dat bars_4), some (.dat room_5), some (.ob false (.lst s_10.2)), some (.ob false (.lst r_41.2)), none, none, none, none, none, none, none, none])) (N := 15) (Ri := (fun (r_44 : List D) => [some (.ob true (.lst r_44)), some (.dat points_2), some (.dat most_3), some (.dat bars_4), some (.dat room_5), some (.ob false (.lst s_10.2)), some (.ob false (.lst boxes_7)), none, none, none, none, none, none, none, none])) (s0 := fun (t_46 : List D) => (t_46, boxes_7)) (xRng1 (s := s_10.1) (xCallB (s := s_10.1) (xLift (s := s_10.1) (eCons (eOp (eV rfl) eC) eNil)))) (fun _ => rfl) (fun s_42 bar_47 => sOne (sAss (sPar2X (R := (fun (r_53 : List D) => [some (.ob true (.lst r_53)), some (.dat points_2), some (.dat most_3), some (.dat bars_4), some (.dat room_5), some (.ob false (.lst s_10.2)), some (.ob false (.lst s_42.2)), none, none, none, none, some (.dat bar_47), none, none, none])) (xOp (s := s_42.1) (xCallB (s := s_42.1) (xLift (s := s_42.1) (eCons (eV rfl) eNil))) (fun s_48 => (xLift (s := s_48) eC))) (fun s_51 => (xOp (s := s_51) (xCallB (s := s_51) (xLift (s := s_51) (eCons (eV rfl) eNil))) (fun s_52 => (xLift (s := s_52) eC)))) fun left_54 low_55 s_56 => (sAss (sSetX (R := (fun (r_59 : List D) => [some (.ob true (.lst r_59)), some (.dat points_2), some (.dat most_3), some (.dat bars_4), some (.dat room_5), some (.ob false (.lst s_10.2)), some (.ob false (.lst s_42.2)), none, none, none, none, some (.dat bar_47), some (.dat left_54), some (.dat low_55), none])) (xOp (s := s_56) (xLift (s := s_56) (eOp (eV rfl) eC)) (fun s_58 => (xCallB (s := s_58) (xLift (s := s_58) (eCons eC eNil))))) fun right_57 s_60 => (sAss (sAppX (R := (fun (r_69 : List D) => [some (.ob true (.lst r_69)), some (.dat points_2), some (.dat most_3), some (.dat bars_4), some (.dat room_5), some (.ob false (.lst s_10.2)), some (.ob false (.lst s_42.2)), none, none, none, none, some (.dat bar_47), some (.dat left_54), some (.dat low_55), some (.dat right_57)])) (get := (fun (s_70 : List D) => s_42.2)) rfl (fun _ => rfl) (xTup (s := s_60) (xCons (s := s_60) (xLift (s := s_60) (eV rfl)) (fun s_64 => (xCons (s := s_64) (xLift (s := s_64) (eV rfl)) (fun s_65 => (xCons (s := s_65) (xLift (s := s_65) (eV rfl)) (fun s_66 => (xCons (s := s_66) (xOp (s := s_66) (xLift (s := s_66) (eOp (eV rfl) eC)) (fun s_67 => (xCallB (s := s_67) (xLift (s := s_67) (eCons eC eNil))))) (fun s_68 => (xLift (s := s_68) eNil)))))))))) fun s_70 boxes_62 => (sKill (sNx' (sNx ⟨.inl rfl, rfl⟩)))))))))) (fun s_43 => (sAss (sRet (r := fun d_72 => (d_72, s_43.1)) (eTup (eCons (eMV (eOwn rfl)) (eCons (eMV (eOwn rfl)) eNil))) fun _ => ⟨.inl rfl, rfl⟩)))))))))))
theorem s__law_drawn_layout : ∀ xs ds p, q__law_drawn_layout xs ds = .ok p → fnB 3 b__law_drawn_layout xs ds = .ok p := fun bag_1 => bm1 fun chart_2 p e => ref_B e (sOne (sAss (sRetX (R := (fun (r_5 : List D) => [some (.ob true (.lst r_5)), some (.dat chart_2), none])) (r := fun p_6 s_7 => (p_6, s_7)) (xMV (s := bag_1) (xView (s := bag_1) (xOfL (s := bag_1) (xComp1 (s := bag_1) (N := 3) (xLift (s := bag_1) (eSeqI (eOp (eV rfl) eC))) (fun row_4 s_3 => (xLift (s := s_3) eC)) (fun row_4 s_3 => (xCallB (s := s_3) (xLift (s := s_3) (eCons (eOfL (eMVL (eView (eOp (eV rfl) eC)))) eNil)))))))) fun _ _ => ⟨.inl rfl, rfl⟩)))
theorem s__law_heard : ∀ r d, q__law_heard r = .ok d → qHelp k__law_heard l__law_heard 2 r = .ok d := hlp_ref fun c_2 fs_3 => (hds_cons (I1 := IP) (sOne (sAss (sRetP (eTup (eCons eC (eCons (eFld rfl) eNil))) fun _ => .inl rfl))) (fun _ _ _ h => h) hds_nil)
theorem s__law_zoomed : ∀ ds, RefR (fnP 12 b__law_zoomed ds) (q__law_zoomed ds) := rm4 fun chart_1 layout_2 point_3 zoom_4 => ref_P (sOne (sAss (sAsg (N := 12) (eOp (eOp (eV rfl) eC) (eV rfl)) (tg_t (tgs_c (tg_n (N := 12)) (tgs_c (tg_n (N := 12)) (tgs_c (tg_n (N := 12)) (tgs_c (tg_n (N := 12)) (tgs_c (tg_n (N := 12)) (tgs_c (tg_n (N := 12)) tgs_n))))))) (sm6 fun name_6 x_7 y_8 width_9 height_10 stands_11 => (sAss (sSet (eIf (eCmp (eOp (eV rfl) (eV rfl)) (eTup (eCons eC (eCons eC eNil)))) (eOp (eV rfl) (eV rfl)) (eOp (eOp (eV rfl) (eV rfl)) (eV rfl))) fun left_12 => (sAss (sSet (eIf (eCmp (eOp (eV rfl) (eV rfl)) (eTup (eCons eC (eCons eC eNil)))) (eOp (eV rfl) (eV rfl)) (eOp (eOp (eV rfl) (eV rfl)) (eV rfl))) fun low_13 => (sAss (sRetP (eTup (eCons (eV rfl) (eCons (eV rfl) (eCons (eOp (eV rfl) (eV rfl)) (eCons (eOp (eV rfl) (eV rfl)) eNil))))) fun _ => .inl rfl))))))))))
theorem s__law_hit : ∀ ds, RefR (fnP 5 b__law_hit ds) (q__law_hit ds) := rm5 fun chart_1 layout_2 one_3 other_4 zoom_5 => ref_P (sOne (sAss (sRetP (eCall (eCons (eCall (eCons (eV rfl) (eCons (eV rfl) (eCons (eV rfl) (eCons (eV rfl) eNil))))) (eCons (eCall (eCons (eV rfl) (eCons (eV rfl) (eCons (eV rfl) (eCons (eV rfl) eNil))))) eNil))) fun _ => .inl rfl)))
theorem s__law_parted : ∀ ds, RefR (fnP 6 b__law_parted ds) (q__law_parted ds) := rm4 fun chart_1 layout_2 one_3 other_4 => ref_P (sOne (sAss (sSet (eOfL (eComp1 (N := 6) (eRng2 eC eC) (fun zoom_6 => (eNot (eCall (eCons (eV rfl) (eCons (eV rfl) (eCons (eV rfl) (eCons (eV rfl) (eCons (eV rfl) eNil)))))))) (fun zoom_6 => (eV rfl)))) fun some_5 => (sAss (sRetP (eIf (eCmp (eV rfl) (eOfL (eLst eNil))) (eOp (eV rfl) eC) eC) fun _ => .inl rfl)))))
theorem s_stands_of : ∀ ds, RefR (fnP 2 b_stands_of ds) (q_stands_of ds) := rm2 fun chart_1 point_2 => ref_P (sOne (sAss (sRetP (eOp (eOp (eOp (eV rfl) eC) (eV rfl)) eC) fun _ => .inl rfl)))
theorem s_need_two : ∀ ds, RefR (fnP 2 b_need_two ds) (q_need_two ds) := rm1 fun chart_1 => ref_P (sOne (sAss (sIf (eMV (eView (eOfL (eComp1 (N := 2) (eRng1 (eMV (eView (eOp (eV rfl) eC)))) (fun point_2 => eC) (fun point_2 => (eCmp (eMV (eView (eCall (eCons (eV rfl) (eCons (eV rfl) eNil))))) eC)))))) (sAss (sRaise (eCons eC eNil))) (sNx' (sNx' (sNx (.inr ⟨rfl, rfl⟩)))))))
theorem s_box_at : ∀ ds, RefR (fnP 7 b_box_at ds) (q_box_at ds) := rm5 fun x_1 y_2 width_3 height_4 stand_5 => ref_P (sOne (sAss (sSet (eIf (eCmp (eV rfl) (eTup (eCons eC (eCons eC eNil)))) (eV rfl) (eOp (eV rfl) (eV rfl))) fun left_6 => (sAss (sSet (eIf (eCmp (eV rfl) (eTup (eCons eC (eCons eC eNil)))) (eV rfl) (eOp (eV rfl) (eV rfl))) fun low_7 => (sAss (sRetP (eTup (eCons (eV rfl) (eCons (eV rfl) (eCons (eOp (eV rfl) (eV rfl)) (eCons (eOp (eV rfl) (eV rfl)) eNil))))) fun _ => .inl rfl)))))))
theorem s_box_of : ∀ ds, RefR (fnP 9 b_box_of ds) (q_box_of ds) := rm3 fun chart_1 point_2 stand_3 => ref_P (sOne (sAss (sAsg (N := 9) (eOp (eOp (eV rfl) eC) (eV rfl)) (tg_t (tgs_c (tg_n (N := 9)) (tgs_c (tg_n (N := 9)) (tgs_c (tg_n (N := 9)) (tgs_c (tg_n (N := 9)) (tgs_c (tg_n (N := 9)) (tgs_c (tg_n (N := 9)) tgs_n))))))) (sm6 fun name_5 x_6 y_7 width_8 height_9 stands_10 => (sAss (sRetP (eCall (eCons (eV rfl) (eCons (eV rfl) (eCons (eV rfl) (eCons (eV rfl) (eCons (eV rfl) eNil)))))) fun _ => .inl rfl))))))
theorem s_do_clash : ∀ ds, RefR (fnP 2 b_do_clash ds) (q_do_clash ds) := rm2 fun one_1 other_2 => ref_P (sOne (sAss (sRetP (eAnd (eCmp (eOp (eV rfl) eC) (eOp (eV rfl) eC)) (eAnd (eCmp (eOp (eV rfl) eC) (eOp (eV rfl) eC)) (eAnd (eCmp (eOp (eV rfl) eC) (eOp (eV rfl) eC)) (eCmp (eOp (eV rfl) eC) (eOp (eV rfl) eC))))) fun _ => .inl rfl)))
theorem s_is_integer : ∀ ds, RefR (fnP 1 b_is_integer ds) (q_is_integer ds) := rm1 fun thing_1 => ref_P (sOne (sAss (sRetP (eAnd (eIsi (eV rfl)) (eNot (eIsi (eV rfl)))) fun _ => .inl rfl)))
theorem s_zoomed : ∀ ds, RefR (fnP 10 b_zoomed ds) (q_zoomed ds) := rm4 fun chart_1 layout_2 point_3 zoom_4 => ref_P (sOne (sAss (sAsg (N := 10) (eOp (eOp (eV rfl) eC) (eV rfl)) (tg_t (tgs_c (tg_n (N := 10)) (tgs_c (tg_n (N := 10)) (tgs_c (tg_n (N := 10)) (tgs_c (tg_n (N := 10)) (tgs_c (tg_n (N := 10)) (tgs_c (tg_n (N := 10)) tgs_n))))))) (sm6 fun name_6 x_7 y_8 width_9 height_10 stands_11 => (sAss (sRetP (eCall (eCons (eOp (eV rfl) (eV rfl)) (eCons (eOp (eV rfl) (eV rfl)) (eCons (eV rfl) (eCons (eV rfl) (eCons (eOp (eV rfl) (eV rfl)) eNil)))))) fun _ => .inl rfl))))))
theorem s_are_in_the_way : ∀ ds, RefR (fnP 5 b_are_in_the_way ds) (q_are_in_the_way ds) := rm5 fun chart_1 layout_2 one_3 other_4 zoom_5 => ref_P (sOne (sAss (sRetP (eCall (eCons (eCall (eCons (eV rfl) (eCons (eV rfl) (eCons (eV rfl) (eCons (eV rfl) eNil))))) (eCons (eCall (eCons (eV rfl) (eCons (eV rfl) (eCons (eV rfl) (eCons (eV rfl) eNil))))) eNil))) fun _ => .inl rfl)))
theorem s_boxes_by : ∀ ds, RefR (fnP 4 b_boxes_by ds) (q_boxes_by ds) := rm2 fun chart_1 layout_2 => ref_P (sOne (sAss (sRetP (eMV (eView (eOfL (eCompT (N := 4) (eEnum (eV rfl)) (tg_t (tgs_c (tg_n (N := 4)) (tgs_c (tg_n (N := 4)) tgs_n))) (em2 fun point_3 stand_4 => eC) (em2 fun point_3 stand_4 => (eCall (eCons (eV rfl) (eCons (eV rfl) (eCons (eV rfl) eNil))))))))) fun _ => .inl rfl)))
theorem s_is_within : ∀ ds, RefR (fnP 3 b_is_within ds) (q_is_within ds) := rm3 fun thing_1 least_2 most_3 => ref_P (sOne (sAss (sRetP (eAnd (eCall (eCons (eV rfl) eNil)) (eCh (eV rfl) (eV rfl) (eV rfl))) fun _ => .inl rfl)))
theorem s_need_bare : ∀ ds, RefR (fnP 1 b_need_bare ds) (q_need_bare ds) := rm1 fun chart_1 => ref_P (sOne (sAss (sIf (eCmp (eOp (eV rfl) eC) (eTup eNil)) (sAss (sRaise (eCons eC eNil))) (sNx' (sNx' (sNx (.inr ⟨rfl, rfl⟩)))))))
theorem s_need_point : ∀ ds, RefR (fnP 2 b_need_point ds) (q_need_point ds) := rm2 fun chart_1 point_2 => ref_P (sOne (sAss (sIf (eNot (eCall (eCons (eV rfl) (eCons eC (eCons (eOp (eMV (eView (eOp (eV rfl) eC))) eC) eNil))))) (sAss (sRaise (eCons (eV rfl) eNil))) (sNx' (sNx' (sNx (.inr ⟨rfl, rfl⟩)))))))
theorem s_parting : ∀ ds, RefR (fnP 7 b_parting ds) (q_parting ds) := rm4 fun chart_1 layout_2 one_3 other_4 => ref_P (sOne (sAss (sPar_dd eC eC fun low_5 high_6 => (sAss (sIf (eCall (eCons (eV rfl) (eCons (eV rfl) (eCons (eV rfl) (eCons (eV rfl) (eCons (eV rfl) eNil)))))) (sAss (sRetP eC fun _ => .inl rfl)) (sNx' (sAss (sWhile (R := (fun (r_7 : D × D) => [some (.dat chart_1), some (.dat layout_2), some (.dat one_3), some (.dat other_4), some (.dat r_7.1), some (.dat r_7.2), none])) rfl (fun s_8 => (eCmp (eV rfl) (eV rfl))) (fun s_8 => sOne (sAss (sSet (eOp (eOp (eV rfl) (eV rfl)) eC) fun middle_10 => (sAss (sAsg (N := 7) (eIf (eCall (eCons (eV rfl) (eCons (eV rfl) (eCons (eV rfl) (eCons (eV rfl) (eCons (eV rfl) eNil)))))) (eTup (eCons (eOp (eV rfl) eC) (eCons (eV rfl) eNil))) (eTup (eCons (eV rfl) (eCons (eV rfl) eNil)))) (tg_t (tgs_c (tg_n (N := 7)) (tgs_c (tg_n (N := 7)) tgs_n))) (sm2 fun low_12 high_13 => (sKill (sNx' (sNx (cnvNx rfl)))))))))) (fun s_9 => (sAss (sRetP (eV rfl) fun _ => .inl rfl))) (fun _ _ => Sim.no)))))))))
end L2.DL.Cm

namespace L2.DL
open PySem PySem.Spec PyProof.Rows
/-! ## one step at a time -/
@[simp] theorem qsel_t {α : Type} (a b : Res α) : qsel (.bool true) a b = a := rfl
@[simp] theorem qsel_f {α : Type} (a b : Res α) : qsel (.bool false) a b = b := rfl
theorem bnd_eq {α β : Type} {x : Res α} {a : α} {k : α → Res β} (h : x = .ok a) : bnd x k = k a := by rw [h]; rfl
@[simp] theorem qsel_b {α : Type} (c : Bool) (a b : Res α) : qsel (.bool c) a b = if c = true then a else b := by cases c <;> rfl
theorem qsel_p {α : Type} (c : Prop) [Decidable c] (a b : Res α) : qsel (.bool (decide c)) a b = if c then a else b := by by_cases h : c <;> simp [h]
@[simp] theorem unp_n (d : D) : unp .n d = .ok [d] := by rw [unp]
@[simp] theorem unp_t (l : List Tg) (xs : List D) : unp (.t l) (.tuple xs) = unps l xs := by rw [unp]
@[simp] theorem unps_nil : unps [] [] = .ok [] := by rw [unps]
@[simp] theorem unps_cons (t : Tg) (ts : List Tg) (d : D) (ds : List D) : unps (t :: ts) (d :: ds) = bnd (unp t d) fun xs => bnd (unps ts ds) fun ys => .ok (xs ++ ys) := by rw [unps]
@[simp] theorem seqD_l (ds : List D) : seqD (.list ds) = .ok (false, ds) := rfl
@[simp] theorem seqD_t (ds : List D) : seqD (.tuple ds) = .ok (true, ds) := rfl
@[simp] theorem slD_l (xs : List D) (lo hi : Option Int) : slD (.list xs) lo hi = .ok (.list (cutD xs lo hi)) := rfl
@[simp] theorem slD_t (xs : List D) (lo hi : Option Int) : slD (.tuple xs) lo hi = .ok (.tuple (cutD xs lo hi)) := rfl
@[simp] theorem lenS_v (p : Bool × List D) : lenS p = .ok (.int p.2.length) := rfl
@[simp] theorem tupS_v (p : Bool × List D) : tupS p = .ok (.tuple p.2) := rfl
@[simp] theorem lstS_v (p : Bool × List D) : lstS p = .ok p.2 := rfl
@[simp] theorem absD_int (i : Int) : absD [.int i] = .ok (.int (if i < 0 then -i else i)) := rfl
@[simp] theorem intD_int (i : Int) : intD [.int i] = .ok (.int i) := rfl
@[simp] theorem negD_int (i : Int) : negD (.int i) = .ok (.int (-i)) := rfl
@[simp] theorem addD_int (i j : Int) : addD (.int i) (.int j) = .ok (.int (i + j)) := rfl
@[simp] theorem iaddD_int (i j : Int) : iaddD (.int i) (.int j) = .ok (.int (i + j)) := rfl
@[simp] theorem subD_int (i j : Int) : subD (.int i) (.int j) = .ok (.int (i - j)) := rfl
theorem mulD_int {i j : Int} (h : (sm i || sm j) = true) : mulD (.int i) (.int j) = .ok (.int (i * j)) := by
  show (if (sm i || sm j) = true then Except.ok (PyData.int (i * j)) else stuck) = _
  rw [if_pos h]
theorem modD_int {i j : Int} (h : 0 < j) : modD (.int i) (.int j) = .ok (.int (i % j)) := by
  show (if j ≠ 0 then Except.ok (PyData.int (i.fmod j)) else stuck) = _
  rw [if_pos (by omega), Int.fmod_eq_emod_of_nonneg _ (by omega)]
theorem fdivD_int {i j : Int} (h : 0 < j) (h2 : j < 1073741824) : fdivD (.int i) (.int j) = .ok (.int (i / j)) := by
  show (if j ≠ 0 ∧ j.natAbs < 1073741824 then Except.ok (PyData.int (i.fdiv j)) else stuck) = _
  rw [if_pos (by omega), Int.fdiv_eq_ediv_of_nonneg _ (by omega)]
@[simp] theorem near_int (i : Int) (d : D) : near (.int i) d = PyData.plain d := by simp [near, PyData.depth, PyData.plain]
@[simp] theorem near_int' (i : Int) (d : D) : near d (.int i) = PyData.plain d := by simp [near, PyData.depth, PyData.plain]
@[simp] theorem eqD_int (i j : Int) : eqD (.int i) (.int j) = .ok (i == j) := by simp [eqD, PyData.plain, PyData.eqv]
@[simp] theorem neD_int (i j : Int) : neD (.int i) (.int j) = .ok (!(i == j)) := by simp [neD, PyData.plain, PyData.eqv]
@[simp] theorem eqD_bool (i j : Bool) : eqD (.bool i) (.bool j) = .ok (i == j) := by simp [eqD, near, PyData.depth, PyData.plain, PyData.eqv]
@[simp] theorem neD_bool (i j : Bool) : neD (.bool i) (.bool j) = .ok (!(i == j)) := by simp [neD, near, PyData.depth, PyData.plain, PyData.eqv]
@[simp] theorem ltD_int (i j : Int) : ltD (.int i) (.int j) = .ok (decide (i < j)) := rfl
@[simp] theorem leD_int (i j : Int) : leD (.int i) (.int j) = .ok (decide (i ≤ j)) := rfl
@[simp] theorem gtD_int (i j : Int) : gtD (.int i) (.int j) = .ok (decide (j < i)) := rfl
@[simp] theorem geD_int (i j : Int) : geD (.int i) (.int j) = .ok (decide (j ≤ i)) := rfl
@[simp] theorem max2D_int (i j : Int) : max2D [.int i, .int j] = .ok (.int (max i j)) := by
  show Except.ok (PyData.int (if j > i then j else i)) = _
  congr 2
  split <;> omega
@[simp] theorem min2D_int (i j : Int) : min2D [.int i, .int j] = .ok (.int (min i j)) := by
  show Except.ok (PyData.int (if j < i then j else i)) = _
  congr 2
  split <;> omega
def ixO (o : Option D) : Res D := match o with | some d => .ok d | none => stuck
@[simp] theorem ixO_some (d : D) : ixO (some d) = .ok d := rfl
@[simp] theorem ixD_l (xs : List D) (i : Int) : ixD (.list xs) (.int i) = ixO (atI xs i) := rfl
@[simp] theorem ixD_t (xs : List D) (i : Int) : ixD (.tuple xs) (.int i) = ixO (atI xs i) := rfl
theorem ixN_nat {n j : Nat} (h : j < n) : ixN n (j : Int) = some j := by
  unfold ixN
  rw [if_pos (by omega), if_pos (by omega), Int.toNat_natCast]
theorem ixN_int {n : Nat} {i : Int} (h0 : 0 ≤ i) (h : i < n) : ixN n i = some i.toNat := by
  unfold ixN
  rw [if_pos h0, if_pos (by omega)]
theorem atI_int {α : Type} {xs : List α} {i : Int} (h0 : 0 ≤ i) (h : i < xs.length) : atI xs i = xs[i.toNat]? := by
  unfold atI
  rw [ixN_int h0 h]
  rfl
theorem atI_lit {α : Type} {xs : List α} (i : Nat) (h : i < xs.length) : atI xs (i : Int) = xs[i]? := by
  unfold atI
  rw [ixN_nat h]
  rfl
@[simp] theorem atI_0 {α : Type} (a0 : α) (l : List α) : atI (a0 :: l) 0 = some a0 := (atI_lit (xs := a0 :: l) 0 (by simp)).trans rfl
@[simp] theorem ixN_0 {α : Type} (a0 : α) (l : List α) : ixN (a0 :: l).length 0 = some 0 := ixN_nat (n := (a0 :: l).length) (j := 0) (by simp)
@[simp] theorem atI_1 {α : Type} (a0 a1 : α) (l : List α) : atI (a0 :: a1 :: l) 1 = some a1 := (atI_lit (xs := a0 :: a1 :: l) 1 (by simp)).trans rfl
@[simp] theorem ixN_1 {α : Type} (a0 a1 : α) (l : List α) : ixN (a0 :: a1 :: l).length 1 = some 1 := ixN_nat (n := (a0 :: a1 :: l).length) (j := 1) (by simp)
@[simp] theorem atI_2 {α : Type} (a0 a1 a2 : α) (l : List α) : atI (a0 :: a1 :: a2 :: l) 2 = some a2 := (atI_lit (xs := a0 :: a1 :: a2 :: l) 2 (by simp)).trans rfl
@[simp] theorem ixN_2 {α : Type} (a0 a1 a2 : α) (l : List α) : ixN (a0 :: a1 :: a2 :: l).length 2 = some 2 := ixN_nat (n := (a0 :: a1 :: a2 :: l).length) (j := 2) (by simp)
@[simp] theorem atI_3 {α : Type} (a0 a1 a2 a3 : α) (l : List α) : atI (a0 :: a1 :: a2 :: a3 :: l) 3 = some a3 := (atI_lit (xs := a0 :: a1 :: a2 :: a3 :: l) 3 (by simp)).trans rfl
@[simp] theorem ixN_3 {α : Type} (a0 a1 a2 a3 : α) (l : List α) : ixN (a0 :: a1 :: a2 :: a3 :: l).length 3 = some 3 := ixN_nat (n := (a0 :: a1 :: a2 :: a3 :: l).length) (j := 3) (by simp)
@[simp] theorem atI_4 {α : Type} (a0 a1 a2 a3 a4 : α) (l : List α) : atI (a0 :: a1 :: a2 :: a3 :: a4 :: l) 4 = some a4 := (atI_lit (xs := a0 :: a1 :: a2 :: a3 :: a4 :: l) 4 (by simp)).trans rfl
@[simp] theorem ixN_4 {α : Type} (a0 a1 a2 a3 a4 : α) (l : List α) : ixN (a0 :: a1 :: a2 :: a3 :: a4 :: l).length 4 = some 4 := ixN_nat (n := (a0 :: a1 :: a2 :: a3 :: a4 :: l).length) (j := 4) (by simp)
@[simp] theorem atI_5 {α : Type} (a0 a1 a2 a3 a4 a5 : α) (l : List α) : atI (a0 :: a1 :: a2 :: a3 :: a4 :: a5 :: l) 5 = some a5 := (atI_lit (xs := a0 :: a1 :: a2 :: a3 :: a4 :: a5 :: l) 5 (by simp)).trans rfl
@[simp] theorem ixN_5 {α : Type} (a0 a1 a2 a3 a4 a5 : α) (l : List α) : ixN (a0 :: a1 :: a2 :: a3 :: a4 :: a5 :: l).length 5 = some 5 := ixN_nat (n := (a0 :: a1 :: a2 :: a3 :: a4 :: a5 :: l).length) (j := 5) (by simp)
@[simp] theorem atI_6 {α : Type} (a0 a1 a2 a3 a4 a5 a6 : α) (l : List α) : atI (a0 :: a1 :: a2 :: a3 :: a4 :: a5 :: a6 :: l) 6 = some a6 := (atI_lit (xs := a0 :: a1 :: a2 :: a3 :: a4 :: a5 :: a6 :: l) 6 (by simp)).trans rfl
@[simp] theorem ixN_6 {α : Type} (a0 a1 a2 a3 a4 a5 a6 : α) (l : List α) : ixN (a0 :: a1 :: a2 :: a3 :: a4 :: a5 :: a6 :: l).length 6 = some 6 := ixN_nat (n := (a0 :: a1 :: a2 :: a3 :: a4 :: a5 :: a6 :: l).length) (j := 6) (by simp)
@[simp] theorem atI_7 {α : Type} (a0 a1 a2 a3 a4 a5 a6 a7 : α) (l : List α) : atI (a0 :: a1 :: a2 :: a3 :: a4 :: a5 :: a6 :: a7 :: l) 7 = some a7 := (atI_lit (xs := a0 :: a1 :: a2 :: a3 :: a4 :: a5 :: a6 :: a7 :: l) 7 (by simp)).trans rfl
@[simp] theorem ixN_7 {α : Type} (a0 a1 a2 a3 a4 a5 a6 a7 : α) (l : List α) : ixN (a0 :: a1 :: a2 :: a3 :: a4 :: a5 :: a6 :: a7 :: l).length 7 = some 7 := ixN_nat (n := (a0 :: a1 :: a2 :: a3 :: a4 :: a5 :: a6 :: a7 :: l).length) (j := 7) (by simp)
end L2.DL

namespace L2.DL.Cm
open PySem PySem.Spec PyProof.Rows
/-- what a bag looks like between two calls -/
structure Bg (xs : List D) : Prop where
  ex : ∃ (h st p : Int) (cs : List Int), xs = [.int h, .int st, .int p, .list (cs.map .int)] ∧ 0 ≤ h ∧ 0 ≤ st ∧ st < 2147483647 ∧ 0 ≤ p ∧ cs.length ≤ 63 ∧ ∀ c ∈ cs, 0 ≤ c
theorem sm_of {i : Int} (h0 : 0 ≤ i) (h : i < 18446744073709551616) : sm i = true := by
  unfold sm
  exact decide_eq_true (by omega)
theorem cut_from (xs : List D) (p : Int) (h0 : 0 ≤ p) : cutD xs (some p) none = xs.drop p.toNat := by
  unfold cutD
  have e : HT.sIx xs.length 0 (some p) = min p.toNat xs.length := by
    show (if p < 0 then (p + (xs.length : Int)).toNat else min p.toNat xs.length) = _
    rw [if_neg (by omega)]
  rw [e, show HT.sIx xs.length xs.length none = xs.length from rfl]
  rw [List.take_of_length_le (by rw [List.length_drop]; exact Nat.le_refl _)]
  by_cases h : p.toNat ≤ xs.length
  · rw [Nat.min_eq_left h]
  · rw [Nat.min_eq_right (by omega), List.drop_length, List.drop_of_length_le (by omega)]
theorem cut_to (xs : List D) (p : Int) (h0 : 0 ≤ p) : cutD xs none (some p) = xs.take p.toNat := by
  unfold cutD
  have e : HT.sIx xs.length xs.length (some p) = min p.toNat xs.length := by
    show (if p < 0 then (p + (xs.length : Int)).toNat else min p.toNat xs.length) = _
    rw [if_neg (by omega)]
  rw [e, show HT.sIx xs.length 0 none = 0 from rfl, List.drop_zero, Nat.sub_zero]
  by_cases h : p.toNat ≤ xs.length
  · rw [Nat.min_eq_left h]
  · rw [Nat.min_eq_right (by omega), List.take_length, List.take_of_length_le (by omega)]
theorem first_or {cs : List Int} (p : Nat) (hc : ∀ c ∈ cs, 0 ≤ c) (hl : cs.length ≤ 63) : ∃ (cell : Int) (r : List D), 0 ≤ cell ∧ addD (.list ((cs.map PyData.int).drop p)) (.list [.int 0]) = .ok (.list (.int cell :: r)) := by
  have e : addD (.list ((cs.map PyData.int).drop p)) (.list [.int 0]) = .ok (.list ((cs.map PyData.int).drop p ++ [.int 0])) := by
    show (if ((cs.map PyData.int).drop p).length + [PyData.int 0].length ≤ lim then Except.ok (PyData.list _) else stuck) = _
    rw [if_pos]
    rw [List.length_drop, List.length_map]
    show cs.length - p + 1 ≤ 1000000
    omega
  rw [e, ← List.map_drop]
  cases q : cs.drop p with
  | nil => exact ⟨0, [], by omega, rfl⟩
  | cons c r =>
    refine ⟨c, r.map PyData.int ++ [.int 0], hc c ?_, rfl⟩
    exact List.mem_of_mem_drop (by rw [q]; exact List.mem_cons_self)
/-- the first half of _law_take: the next cell, where the number is used up -/
theorem take_go {xs : List D} {many : Int} (B : Bg xs) (h0 : 0 < many) (h1 : many < 1000000000) : ∃ v xs', q__law_take xs [.int many] = .ok (.int v, xs') ∧ Bg xs' ∧ 0 ≤ v ∧ v < many := by
  obtain ⟨h, st, p, cs, rfl, hh, hs, hs1, hp, hl, hc⟩ := B.ex
  obtain ⟨cell, r, hcell, ecell⟩ := first_or p.toNat hc hl
  have e10 : powD (.int 10) (.int 18) = .ok (.int 1000000000000000000) := by rfl
  have m1 : ∀ i : Int, mulD (.int i) (.int 48271) = .ok (.int (i * 48271)) := fun i => mulD_int (by simp [sm])
  have m2 : ∀ i : Int, mulD (.int i) (.int 39373) = .ok (.int (i * 39373)) := fun i => mulD_int (by simp [sm])
  have m3 : ∀ i : Int, mulD (.int i) (.int 30011) = .ok (.int (i * 30011)) := fun i => mulD_int (by simp [sm])
  have m4 : ∀ i : Int, mulD (.int 7919) (.int i) = .ok (.int (7919 * i)) := fun i => mulD_int (by simp [sm])
  have m5 : ∀ i : Int, mulD (.int (i % 1000000007)) (.int (i % 1000000007)) = .ok (.int (i % 1000000007 * (i % 1000000007))) := fun i => mulD_int (by rw [sm_of (by omega) (by omega)]; rfl)
  have d1 : ∀ i : Int, modD (.int i) (.int many) = .ok (.int (i % many)) := fun i => modD_int h0
  have d2 : ∀ i : Int, fdivD (.int i) (.int many) = .ok (.int (i / many)) := fun i => fdivD_int h0 (by omega)
  have d3 : ∀ i : Int, fdivD (.int i) (.int 7) = .ok (.int (i / 7)) := fun i => fdivD_int (by omega) (by omega)
  have d4 : ∀ i : Int, modD (.int i) (.int 2147483647) = .ok (.int (i % 2147483647)) := fun i => modD_int (by omega)
  have d5 : ∀ i : Int, modD (.int i) (.int 1000000007) = .ok (.int (i % 1000000007)) := fun i => modD_int (by omega)
  have d6 : ∀ i : Int, modD (.int i) (.int 998244353) = .ok (.int (i % 998244353)) := fun i => modD_int (by omega)
  have r1 : ∀ i : Int, 0 ≤ i % many := fun i => Int.emod_nonneg _ (by omega)
  have r2 : ∀ i : Int, i % many < many := fun i => Int.emod_lt_of_pos _ h0
  have r3 : ∀ i : Int, 0 ≤ i → 0 ≤ i / many := fun i hi => Int.ediv_nonneg hi (by omega)
  unfold q__law_take
  by_cases hz : h = 0
  · subst hz
    by_cases hb : 1000000000000000000 ≤ cell
    · have hpos : 0 < cell := by omega
      simp [cut_from _ _ hp, ecell, ixN, e10, m1, m4, d1, d2, d4, hb, hpos]
      exact ⟨_, _, ⟨rfl, rfl⟩, ⟨_, _, _, cs, rfl, r3 _ (by omega), by omega, by omega, by omega, hl, hc⟩, r1 _, r2 _⟩
    · simp [cut_from _ _ hp, ecell, ixN, e10, m1, m2, m3, m4, m5, d1, d2, d3, d4, d5, d6, hb]
      exact ⟨_, _, ⟨rfl, rfl⟩, ⟨_, _, _, cs, rfl, by omega, by omega, by omega, by omega, hl, hc⟩, r1 _, r2 _⟩
  · have hpos : 0 < h := by omega
    simp [hz, hpos, d1, d2, ixN]
    exact ⟨_, _, ⟨rfl, rfl⟩, ⟨_, _, _, cs, rfl, r3 _ hh, hs, hs1, hp, hl, hc⟩, r1 _, r2 _⟩
end L2.DL.Cm

namespace L2.DL
open PySem PySem.Spec PyProof.Rows
/-! ## loops -/
section
variable {α β S : Type}
theorem compQ_gen {test elt : D → Res D} {π : D → Bool} {φ : D → D} : ∀ {ds : List D}, (∀ d ∈ ds, test d = .ok (.bool (π d)) ∧ (π d = true → elt d = .ok (φ d))) → compQ test elt ds = .ok ((ds.filter π).map φ)
  | [], _ => rfl
  | d :: ds, h => by
    have ih := compQ_gen (ds := ds) fun e he => h e (List.mem_cons_of_mem _ he)
    obtain ⟨h1, h2⟩ := h d List.mem_cons_self
    rw [compQ, h1, pur_ok, bnd_ok]
    cases hp : π d with
    | true => rw [qsel_t, h2 hp, pur_ok, bnd_ok, ih, bnd_ok, List.filter_cons_of_pos hp, List.map_cons]
    | false => rw [qsel_f, ih, List.filter_cons_of_neg (by rw [hp]; exact Bool.false_ne_true)]
theorem compQ_map {test elt : D → Res D} {φ : D → D} {ds : List D} (h : ∀ d ∈ ds, test d = .ok (.bool true) ∧ elt d = .ok (φ d)) : compQ test elt ds = .ok (ds.map φ) := by
  rw [compQ_gen (π := fun _ => true) (φ := φ) fun d hd => ⟨(h d hd).1, fun _ => (h d hd).2⟩]
  rw [List.filter_eq_self.mpr fun _ _ => rfl]
/-- over data told by something -/
theorem compQ_on {test elt : D → Res D} {f : α → D} {π : α → Bool} {φ : α → D} : ∀ {xs : List α}, (∀ x ∈ xs, test (f x) = .ok (.bool (π x)) ∧ (π x = true → elt (f x) = .ok (φ x))) → compQ test elt (xs.map f) = .ok ((xs.filter π).map φ)
  | [], _ => rfl
  | x :: xs, h => by
    have ih := compQ_on (xs := xs) fun e he => h e (List.mem_cons_of_mem _ he)
    obtain ⟨h1, h2⟩ := h x List.mem_cons_self
    rw [List.map_cons, compQ, h1, pur_ok, bnd_ok]
    cases hp : π x with
    | true => rw [qsel_t, h2 hp, pur_ok, bnd_ok, ih, bnd_ok, List.filter_cons_of_pos hp, List.map_cons]
    | false => rw [qsel_f, ih, List.filter_cons_of_neg (by rw [hp]; exact Bool.false_ne_true)]
theorem compQ_onm {test elt : D → Res D} {f : α → D} {φ : α → D} {xs : List α} (h : ∀ x ∈ xs, test (f x) = .ok (.bool true) ∧ elt (f x) = .ok (φ x)) : compQ test elt (xs.map f) = .ok (xs.map φ) := by
  rw [compQ_on (π := fun _ => true) (φ := φ) fun d hd => ⟨(h d hd).1, fun _ => (h d hd).2⟩]
  rw [List.filter_eq_self.mpr fun _ _ => rfl]
theorem foldQ_inv {step : S → D → Res S} (P : List D → S → Prop) : ∀ {ds done : List D} {s : S}, P done s → (∀ done d s, P done s → d ∈ ds → ∃ s', step s d = .ok s' ∧ P (done ++ [d]) s') → ∃ s', foldQ step s ds = .ok s' ∧ P (done ++ ds) s'
  | [], done, s, h, _ => ⟨s, rfl, by rw [List.append_nil]; exact h⟩
  | d :: ds, done, s, h, k => by
    obtain ⟨s1, h1, h2⟩ := k done d s h List.mem_cons_self
    obtain ⟨s2, h3, h4⟩ := foldQ_inv P (ds := ds) h2 fun done e s p m => k done e s p (List.mem_cons_of_mem _ m)
    refine ⟨s2, ?_, by rw [List.append_assoc] at h4; exact h4⟩
    rw [foldQ, h1, bnd_ok, h3]
/-- each step told; over data told by something -/
theorem foldQ_on {step : S → D → Res S} {f : α → D} (P : List α → S → Prop) : ∀ {xs done : List α} {s : S}, P done s → (∀ done x s, P done s → x ∈ xs → ∃ s', step s (f x) = .ok s' ∧ P (done ++ [x]) s') → ∃ s', foldQ step s (xs.map f) = .ok s' ∧ P (done ++ xs) s'
  | [], done, s, h, _ => ⟨s, rfl, by rw [List.append_nil]; exact h⟩
  | x :: xs, done, s, h, k => by
    obtain ⟨s1, h1, h2⟩ := k done x s h List.mem_cons_self
    obtain ⟨s2, h3, h4⟩ := foldQ_on P (xs := xs) h2 fun done e s p m => k done e s p (List.mem_cons_of_mem _ m)
    refine ⟨s2, ?_, by rw [List.append_assoc] at h4; exact h4⟩
    rw [List.map_cons, foldQ, h1, bnd_ok, h3]
theorem foldQ_fold {step : S → D → Res S} {f : α → D} {F : S → α → S} (I : S → Prop) : ∀ {xs : List α} {s : S}, I s → (∀ x s, I s → x ∈ xs → step s (f x) = .ok (F s x) ∧ I (F s x)) → foldQ step s (xs.map f) = .ok (xs.foldl F s) ∧ I (xs.foldl F s)
  | [], s, h, _ => ⟨rfl, h⟩
  | x :: xs, s, h, k => by
    obtain ⟨h1, h2⟩ := k x s h List.mem_cons_self
    have ih := foldQ_fold (step := step) (f := f) (F := F) I (xs := xs) h2 fun x s p m => k x s p (List.mem_cons_of_mem _ m)
    refine ⟨?_, ih.2⟩
    rw [List.map_cons, foldQ, h1, bnd_ok, ih.1]
    rfl
theorem forQ_inv {step : S → D → Res (Cn S)} (P : List D → S → Prop) : ∀ {ds done : List D} {s : S}, P done s → (∀ done d s, P done s → d ∈ ds → ∃ s', step s d = .ok (.nx s') ∧ P (done ++ [d]) s') → ∃ s', forQ step s ds = .ok (.nx s') ∧ P (done ++ ds) s'
  | [], done, s, h, _ => ⟨s, rfl, by rw [List.append_nil]; exact h⟩
  | d :: ds, done, s, h, k => by
    obtain ⟨s1, h1, h2⟩ := k done d s h List.mem_cons_self
    obtain ⟨s2, h3, h4⟩ := forQ_inv P (ds := ds) h2 fun done e s p m => k done e s p (List.mem_cons_of_mem _ m)
    refine ⟨s2, ?_, by rw [List.append_assoc] at h4; exact h4⟩
    rw [forQ, h1, bnd_ok]
    exact h3
/-- one thing is kept by all turns -/
theorem forQ_keep {step : S → D → Res (Cn S)} (P : S → Prop) {ds : List D} {s : S} (h : P s) (k : ∀ d s, P s → d ∈ ds → ∃ s', step s d = .ok (.nx s') ∧ P s') : ∃ s', forQ step s ds = .ok (.nx s') ∧ P s' :=
  forQ_inv (fun _ s => P s) (done := []) h fun _ d s p m => k d s p m
theorem foldQ_keep {step : S → D → Res S} (P : S → Prop) {ds : List D} {s : S} (h : P s) (k : ∀ d s, P s → d ∈ ds → ∃ s', step s d = .ok s' ∧ P s') : ∃ s', foldQ step s ds = .ok s' ∧ P s' :=
  foldQ_inv (fun _ s => P s) (done := []) h fun _ d s p m => k d s p m
/-- a search: the first that makes a turn return -/
theorem forQ_find {step : S → D → Res (Cn S)} {s : S} {f : α → D} {π : α → Bool} {r : α → D} : ∀ {xs : List α}, (∀ x ∈ xs, step s (f x) = if π x = true then .ok (.rt (r x)) else .ok (.nx s)) → forQ step s (xs.map f) = match xs.find? π with | some x => .ok (.rt (r x)) | none => .ok (.nx s)
  | [], _ => rfl
  | x :: xs, h => by
    have h1 := h x List.mem_cons_self
    have ih := forQ_find (step := step) (s := s) (f := f) (π := π) (r := r) (xs := xs) fun x m => h x (List.mem_cons_of_mem _ m)
    rw [List.map_cons, forQ, h1, List.find?_cons]
    cases hp : π x with
    | true => rfl
    | false => exact ih
theorem while_inv {c : S → Res D} {b : S → Res (Cn S)} {Q : S → Prop} (P : Nat → S → Prop) (h : ∀ n s, P n s → (c s = .ok (.bool false) ∧ Q s) ∨ ∃ s' m, m < n ∧ c s = .ok (.bool true) ∧ b s = .ok (.nx s') ∧ P m s') :
    ∀ n s, P n s → ∃ s', whileQ c b s = .ok (.nx s') ∧ Q s' := by
  have key : ∀ n s, P n s → ∃ k s', whileN c b k s = .ok (.nx s') ∧ Q s' := by
    intro n
    induction n using Nat.strongRecOn with
    | ind n ih =>
      intro s p
      rcases h n s p with ⟨h1, q⟩ | ⟨s', m, hm, h1, h2, p2⟩
      · exact ⟨1, s, by rw [whileN, h1]; rfl, q⟩
      · obtain ⟨k, s2, h3, q⟩ := ih m hm s' p2
        refine ⟨k + 1, s2, ?_, q⟩
        rw [whileN, h1, bnd_ok, qsel_t, h2, bnd_ok]
        exact h3
  intro n s p
  obtain ⟨k, s', h1, q⟩ := key n s p
  exact ⟨s', whileQ_eq h1 (fun z => nomatch z), q⟩
theorem compX_map {test elt : S → D → Res (D × S)} (P : S → Prop) (Qd : D → D → Prop) : ∀ {ds : List D} {s : S}, P s → (∀ d s, P s → d ∈ ds → ∃ s1 e s2, test s d = .ok (.bool true, s1) ∧ elt s1 d = .ok (e, s2) ∧ P s2 ∧ Qd d e) → ∃ es s', compX test elt ds s = .ok (es, s') ∧ P s' ∧ es.length = ds.length ∧ ∀ (i : Nat) d e, ds[i]? = some d → es[i]? = some e → Qd d e
  | [], s, h, _ => ⟨[], s, rfl, h, rfl, fun i d e h1 _ => by simp at h1⟩
  | d :: ds, s, h, k => by
    obtain ⟨s1, e, s2, h1, h2, h3, h4⟩ := k d s h List.mem_cons_self
    obtain ⟨es, s', g1, g2, g3, g4⟩ := compX_map P Qd (ds := ds) h3 fun d s p m => k d s p (List.mem_cons_of_mem _ m)
    refine ⟨e :: es, s', ?_, g2, by simp [g3], fun i d' e' q1 q2 => ?_⟩
    · simp [compX, h1, h2, g1]
    · cases i with
      | zero => simp at q1 q2; subst q1 q2; exact h4
      | succ i => exact g4 i d' e' (by simpa using q1) (by simpa using q2)
end
end L2.DL

namespace L2.DL.Cm
open PySem PySem.Spec PyProof.Rows
theorem bag_go {ns : List Int} : ∃ xs, q__law_bag [.list (ns.map .int)] = .ok xs ∧ Bg xs := by
  unfold q__law_bag
  have e := compQ_onm (test := fun _ => .ok (.bool true)) (elt := fun d => bnd (pur (absD [d])) fun z => .ok z) (f := PyData.int) (φ := fun i => .int (if i < 0 then -i else i)) (xs := ns.take 63) fun i _ => ⟨rfl, rfl⟩
  have hl' : min 63 ns.length ≤ lim := by show min 63 ns.length ≤ 1000000; omega
  have e2 := compQ_onm (test := fun _ => .ok (.bool true)) (elt := fun d => pur (absD [d])) (f := PyData.int) (φ := fun i => .int (if i < 0 then -i else i)) (xs := ns.take 63) fun i _ => ⟨rfl, rfl⟩
  simp [cut_to, ← List.map_take, e, e2, hl']
  refine ⟨0, 1234567891, 0, (ns.take 63).map fun i => if i < 0 then -i else i, (by rw [List.map_map]; rfl), by omega, by omega, by omega, by omega, ?_, fun c hc => ?_⟩
  · rw [List.length_map, List.length_take]
    omega
  · obtain ⟨n, _, rfl⟩ := List.mem_map.mp hc
    split <;> omega
theorem perm_erase {α : Type} : ∀ {l : List α} {j : Nat} (h : j < l.length), (l[j] :: l.eraseIdx j).Perm l
  | [], _, h => by cases h
  | a :: l, 0, _ => List.Perm.refl _
  | a :: l, j + 1, h => by
    have h' : j < l.length := by simpa using h
    show (l[j] :: a :: l.eraseIdx j).Perm (a :: l)
    exact (List.Perm.swap _ _ _).trans (List.Perm.cons _ (perm_erase h'))
theorem neD_nil (d : D) (ds : List D) (h : PyData.plainAll (d :: ds) = true) : neD (.list (d :: ds)) (.list []) = .ok true := by
  have h' : PyData.plain d = true ∧ PyData.plainAll ds = true := by simpa [PyData.plainAll] using h
  simp [neD, near, PyData.depth, PyData.depthAll, PyData.eqv, PyData.eqvAll, PyData.plain, PyData.plainAll, h'.1, h'.2]
theorem neD_nil0 : neD (.list []) (.list []) = .ok false := by
  simp [neD, near, PyData.depth, PyData.depthAll, PyData.eqv, PyData.eqvAll, PyData.plain, PyData.plainAll]
theorem plainAll_mem {ds : List D} : PyData.plainAll ds = true ↔ ∀ d ∈ ds, PyData.plain d = true := by
  induction ds with
  | nil => simp [PyData.plainAll]
  | cons d ds ih => simp [PyData.plainAll, ih]
theorem plainAll_perm {xs ys : List D} (h : xs.Perm ys) (p : PyData.plainAll ys = true) : PyData.plainAll xs = true := plainAll_mem.mpr fun d hd => plainAll_mem.mp p d (h.mem_iff.mp hd)
/-- a bag, mixed things: as many of each, the bag again a bag -/
theorem mixed_go {xs ds : List D} (B : Bg xs) (hl : ds.length ≤ 100000) (hp : PyData.plainAll ds = true) : ∃ out xs', q__law_mixed xs [.list ds] = .ok (.list out, xs') ∧ Bg xs' ∧ out.Perm ds := by
  unfold q__law_mixed
  have w := while_inv (c := fun (s : List D × List D × List D) => qcmpO neD s.2.1 (qofL (qlst qnil))) (b := fun (s_6 : List D × List D × List D) => (appX (fun (s_11 : List D × List D) => s_6.2.2) (xpop (fun (s : List D × List D) => s.2) (fun (s : List D × List D) l => (s.1, l)) (xcallB 2 q__law_take (fun (s : List D × List D) => s.1) (fun (s : List D × List D) l => (l, s.2)) (xl (s_6.1, s_6.2.1) (qcons (qv lenS (.ok (false, (s_6.1, s_6.2.1).2))) qnil)))) fun (s_11 : List D × List D) found_8 => (.ok (.nx (s_11.1, s_11.2, found_8)))))
    (Q := fun s => ∃ ys out, s = (ys, [], out) ∧ Bg ys ∧ out.Perm ds)
    (fun n s => ∃ ys left out, s = (ys, left, out) ∧ left.length = n ∧ Bg ys ∧ (left ++ out).Perm ds) (fun n s ⟨ys, left, out, e, hn, By, pm⟩ => by
      subst e
      have hlen : left.length + out.length = ds.length := by rw [← pm.length_eq, List.length_append]
      have hpl : PyData.plainAll left = true := plainAll_mem.mpr fun d hd => plainAll_mem.mp hp d (pm.mem_iff.mp (List.mem_append_left _ hd))
      cases left with
      | nil =>
        refine .inl ⟨?_, ys, out, rfl, By, by simpa using pm⟩
        simp [neD_nil0]
      | cons d left =>
        obtain ⟨v, ys', h1, By', h2, h3⟩ := take_go By (many := (left.length : Int) + 1) (by omega) (by rw [List.length_cons] at hlen; omega)
        obtain ⟨j, rfl⟩ : ∃ j : Nat, v = (j : Int) := ⟨v.toNat, by omega⟩
        have hj : j < (d :: left).length := by rw [List.length_cons]; omega
        have hj2 : j < left.length + 1 := by simpa using hj
        have e3 : ixN (left.length + 1) (j : Int) = some j := ixN_nat hj2
        have e4 : (d :: left)[j]? = some (d :: left)[j] := List.getElem?_eq_getElem hj
        have hout : out.length < lim := by
          show out.length < 1000000
          omega
        refine .inr ⟨(ys', (d :: left).eraseIdx j, out ++ [(d :: left)[j]]), left.length, by rw [← hn, List.length_cons]; omega, ?_, ?_, ys', (d :: left).eraseIdx j, out ++ [(d :: left)[j]], rfl, ?_, By', ?_⟩
        · simp [neD_nil _ _ hpl]
        · have k1 : (-1000000 : Int) ≤ (j : Int) ∧ (j : Int) ≤ 1000000 := by omega
          simp [lenS, h1, e3, e4, hout, k1]
        · rw [List.length_eraseIdx, if_pos hj, List.length_cons]; omega
        · refine List.Perm.trans ?_ pm
          rw [← List.append_assoc]
          refine (List.perm_append_comm (l₁ := (d :: left).eraseIdx j ++ out) (l₂ := [(d :: left)[j]])).trans ?_
          have := perm_erase hj
          exact (List.Perm.append_right out this)) ds.length (xs, ds, []) ⟨xs, ds, [], rfl, rfl, B, by rw [List.append_nil]⟩
  obtain ⟨s', w1, ys, out, rfl, By, pm⟩ := w
  refine ⟨out, ys, ?_, By, pm⟩
  simp only [m1]
  have e1 : qv lstS (qview (.ok (.list ds))) = .ok ds := by simp [lstS]
  have e2 : qlst qnil = .ok [] := by simp
  rw [bnd_eq e1, bnd_eq e2, bnd_eq w1]
  simp
end L2.DL.Cm

namespace L2.DL
open PySem PySem.Spec PyProof.Rows
/-! ## a result of which something is known -/
def In {β : Type} (r : Res β) (P : β → Prop) : Prop := ∃ b, r = .ok b ∧ P b
section
variable {α β S : Type} {x : Res α} {a : α} {k : α → Res β} {P : β → Prop} {Q : α → Prop}
theorem In.ok {b : β} (h : P b) : In (.ok b) P := ⟨b, rfl, h⟩
theorem In.bnd (h : x = .ok a) (hk : In (k a) P) : In (bnd x k) P := by rw [bnd_eq h]; exact hk
theorem In.seq (h : In x Q) (hk : ∀ a, Q a → In (k a) P) : In (DL.bnd x k) P := by
  obtain ⟨a, h1, h2⟩ := h
  rw [bnd_eq h1]
  exact hk a h2
theorem In.imp {P' : β → Prop} {r : Res β} (h : In r P) (hk : ∀ b, P b → P' b) : In r P' := by
  obtain ⟨b, h1, h2⟩ := h
  exact ⟨b, h1, hk b h2⟩
theorem In.fold {step : S → D → Res S} {f : α → D} {xs : List α} {s : S} (I : List α → S → Prop) (h0 : I [] s) (h : ∀ done x rest s, xs = done ++ x :: rest → I done s → In (step s (f x)) (I (done ++ [x]))) : In (foldQ step s (xs.map f)) (I xs) := by
  have key : ∀ (rest done : List α) (s : S), xs = done ++ rest → I done s → In (foldQ step s (rest.map f)) (I xs) := by
    intro rest
    induction rest with
    | nil => intro done s e i; rw [List.append_nil] at e; subst e; exact In.ok i
    | cons x rest ih =>
      intro done s e i
      rw [List.map_cons, foldQ]
      exact In.seq (h done x rest s e i) fun s' i' => ih (done ++ [x]) s' (by rw [e]; simp) i'
  exact key xs [] s rfl h0
end
theorem perm_unmap {α β : Type} {f : α → β} : ∀ {out m : List β}, out.Perm m → ∀ {l : List α}, m = l.map f → ∃ l' : List α, out = l'.map f ∧ l'.Perm l := by
  intro out m p
  induction p with
  | nil =>
    intro l h
    have := List.map_eq_nil_iff.mp h.symm
    subst this
    exact ⟨[], rfl, List.Perm.refl _⟩
  | cons x p ih =>
    intro l h
    cases l with
    | nil => cases h
    | cons a l =>
      rw [List.map_cons] at h
      injection h with h1 h2
      obtain ⟨l', e, q⟩ := ih h2
      exact ⟨a :: l', by rw [List.map_cons, ← h1, ← e], List.Perm.cons _ q⟩
  | swap x y l0 =>
    intro l h
    cases l with
    | nil => cases h
    | cons a l =>
      cases l with
      | nil => simp at h
      | cons b l =>
        simp only [List.map_cons] at h
        injection h with h1 h2
        injection h2 with h2 h3
        exact ⟨b :: a :: l, by rw [List.map_cons, List.map_cons, ← h1, ← h2, ← h3], List.Perm.swap _ _ _⟩
  | trans p1 p2 ih1 ih2 =>
    intro l h
    obtain ⟨l2, e2, q2⟩ := ih2 h
    obtain ⟨l1, e1, q1⟩ := ih1 e2
    exact ⟨l1, e1, q1.trans q2⟩
theorem plain_ints (ns : List Int) : PyData.plainAll (ns.map PyData.int) = true := by
  induction ns with
  | nil => rfl
  | cons n ns ih => simp [PyData.plainAll, PyData.plain, ih]
theorem plain_strs (ns : List Str) : PyData.plainAll (ns.map PyData.str) = true := by
  induction ns with
  | nil => rfl
  | cons n ns ih => simp [PyData.plainAll, PyData.plain, ih]
theorem sortS_int {ns : List Int} (hl : ns.length ≤ lim) : sortS (false, ns.map .int) = .ok ((ns.mergeSort (fun a b => decide (a ≤ b))).map .int) := by
  unfold sortS
  have h1 : PySem.W.AllAlike (ns.map PyData.int) := PySem.W.AllAlike.of fun b b' => rfl
  have h2 : PySem.W.Sortable (ns.map PyData.int) := PySem.W.Sortable.others fun b => ⟨(by intro e; cases e), (by intro xs e; cases e)⟩
  have h3 : ∀ d ∈ ns.map PyData.int, PyData.depth d ≤ 60 := fun d hd => by
    obtain ⟨n, _, rfl⟩ := List.mem_map.mp hd
    simp [PyData.depth]
  rw [if_pos ⟨rfl, plain_ints ns, h1, h2, by rw [List.length_map]; exact hl, h3⟩]
  congr 1
  refine (List.map_mergeSort (r := fun a b => decide (a ≤ b)) (s := PySem.W.dataLe false (fun d : D => d)) (f := PyData.int) fun a _ b _ => ?_).symm
  exact (congrFun (congrFun (PySem.W.dataLe_int (fun n : Int => n)) a) b).symm
namespace Cm
def nmL : List Str := ["york", "hull", "ripon", "leeds", "x", "zz", "abcdefgh", "q", "dale", "wick"]
theorem nm_nodup : nmL.Nodup := by decide +kernel
theorem names_go {xs : List D} {many : Int} (B : Bg xs) (h0 : 0 ≤ many) : ∃ (ws : List Str) (xs' : List D), q__law_names xs [.int many] = .ok (.list (ws.map .str), xs') ∧ Bg xs' ∧ ws.Nodup ∧ ws.length = min many.toNat 10 ∧ ∀ w ∈ ws, w ∈ nmL := by
  obtain ⟨out, xs', h1, B', pm⟩ := mixed_go (ds := nmL.map .str) B (by decide) (plain_strs _)
  obtain ⟨ws, rfl, pw⟩ := perm_unmap pm rfl
  unfold q__law_names
  have h1' : q__law_mixed xs [.list [.str ("york" : Str), .str ("hull" : Str), .str ("ripon" : Str), .str ("leeds" : Str), .str ("x" : Str), .str ("zz" : Str), .str ("abcdefgh" : Str), .str ("q" : Str), .str ("dale" : Str), .str ("wick" : Str)]] = .ok (.list (ws.map .str), xs') := h1
  simp [h1', cut_to _ _ h0]
  refine ⟨ws.take many.toNat, xs', (by simp [List.map_take]), B', ?_, ?_, fun w hw => ?_⟩
  · exact (pw.nodup_iff.mpr nm_nodup).sublist (List.take_sublist _ _)
  · rw [List.length_take, pw.length_eq]; rfl
  · exact pw.mem_iff.mp (List.mem_of_mem_take hw)
/-- the stands of a point -/
structure Sds (most : Int) (ks : List Int) : Prop where
  l0 : 1 ≤ ks.length
  l1 : (ks.length : Int) ≤ most
  up : ks.Pairwise (· < ·)
  mem : ∀ k ∈ ks, 0 ≤ k ∧ k < 4
theorem stands_go {xs : List D} {most : Int} (B : Bg xs) (h0 : 1 ≤ most) (h1 : most ≤ 4) : ∃ (ks : List Int) (xs' : List D), q__law_stands xs [.int most] = .ok (.tuple (ks.map .int), xs') ∧ Bg xs' ∧ Sds most ks := by
  obtain ⟨out, xs1, e1, B1, pm⟩ := mixed_go (ds := ([0, 1, 2, 3] : List Int).map .int) B (by decide) (plain_ints _)
  obtain ⟨ws, rfl, pw⟩ := perm_unmap pm rfl
  obtain ⟨v, xs2, e2, B2, v0, v1⟩ := take_go B1 (many := most) (by omega) (by omega)
  have e1' : q__law_mixed xs [.list [.int 0, .int 1, .int 2, .int 3]] = .ok (.list (ws.map .int), xs1) := e1
  have hl : ws.length = 4 := by rw [pw.length_eq]; rfl
  have hs : sortS (false, (ws.map PyData.int).take (1 + v).toNat) = .ok (((ws.take (1 + v).toNat).mergeSort (fun a b => decide (a ≤ b))).map .int) := by
    rw [← List.map_take]
    exact sortS_int (by rw [List.length_take]; show _ ≤ 1000000; omega)
  unfold q__law_stands
  simp [e1', e2, cut_to _ _ (show 0 ≤ 1 + v by omega), hs]
  refine ⟨(ws.take (1 + v).toNat).mergeSort (fun a b => decide (a ≤ b)), xs2, ⟨rfl, rfl⟩, B2, ?_⟩
  have nd : (ws.take (1 + v).toNat).Nodup := (pw.nodup_iff.mpr (by decide)).sublist (List.take_sublist _ _)
  have pp := List.mergeSort_perm (ws.take (1 + v).toNat) (fun a b => decide (a ≤ b))
  have ln : ((ws.take (1 + v).toNat).mergeSort (fun a b => decide (a ≤ b))).length = min (1 + v).toNat 4 := by rw [pp.length_eq, List.length_take, hl]
  refine ⟨by omega, by omega, ?_, fun k hk => ?_⟩
  · have so := List.pairwise_mergeSort (le := fun a b : Int => decide (a ≤ b)) (fun a b c h1 h2 => by simp at h1 h2 ⊢; omega) (fun a b => by simp; omega) (ws.take (1 + v).toNat)
    have nd' : ((ws.take (1 + v).toNat).mergeSort (fun a b => decide (a ≤ b))).Pairwise (· ≠ ·) := pp.nodup_iff.mpr nd
    exact (so.and nd').imp fun {a b} h => by
      have h1 := h.1
      have h2 := h.2
      simp at h1
      omega
  · have := pw.mem_iff.mp (List.mem_of_mem_take (pp.mem_iff.mp hk))
    simp at this
    omega
/-- a point of a drawn map, a bar -/
structure Pt where
  nm : Str
  x : Int
  y : Int
  w : Int
  h : Int
  ks : List Int
structure Bx where
  l : Int
  b : Int
  r : Int
  t : Int
def ptD (p : Pt) : D := .tuple [.str p.nm, .int p.x, .int p.y, .int p.w, .int p.h, .tuple (p.ks.map .int)]
def bxD (b : Bx) : D := .tuple [.int b.l, .int b.b, .int b.r, .int b.t]
def chartD (ps : List Pt) (bs : List Bx) : D := .tuple [.tuple (ps.map ptD), .tuple (bs.map bxD)]
structure PtOk (most room : Int) (p : Pt) : Prop where
  x0 : 0 ≤ p.x
  x1 : p.x < room
  y0 : 0 ≤ p.y
  y1 : p.y < room
  w0 : 1 ≤ p.w
  w1 : p.w ≤ 6
  h0 : 1 ≤ p.h
  h1 : p.h ≤ 4
  ks : Sds most p.ks
structure BxOk (room : Int) (b : Bx) : Prop where
  l0 : -2 ≤ b.l
  l1 : b.l < room - 2
  b0 : -2 ≤ b.b
  b1 : b.b < room - 2
  r0 : b.l < b.r
  r1 : b.r ≤ b.l + 4
  t0 : b.b < b.t
  t1 : b.t ≤ b.b + 4
structure ChartOk (points most bars room : Int) (ps : List Pt) (bs : List Bx) : Prop where
  n0 : 1 ≤ ps.length
  n1 : (ps.length : Int) ≤ points
  n2 : ps.length ≤ 10
  nd : (ps.map (·.nm)).Nodup
  nms : ∀ p ∈ ps, p.nm ∈ nmL
  pts : ∀ p ∈ ps, PtOk most room p
  m1 : (bs.length : Int) ≤ bars
  bxs : ∀ b ∈ bs, BxOk room b
end Cm
end L2.DL

namespace L2.DL.Cm
open PySem PySem.Spec PyProof.Rows
theorem chart_go {xs : List D} {points most bars room : Int} (B : Bg xs) (hp : 1 ≤ points) (hp2 : points ≤ 1000) (hm : 1 ≤ most) (hm4 : most ≤ 4) (hb : 0 ≤ bars) (hb2 : bars ≤ 1000) (hr : 1 ≤ room) (hr2 : room ≤ 1000000) :
    ∃ ps bs xs', q__law_chart xs [.int points, .int most, .int bars, .int room] = .ok (chartD ps bs, xs') ∧ Bg xs' ∧ ChartOk points most bars room ps bs := by
  obtain ⟨v1, ys1, e1, B1, v10, v11⟩ := take_go B (many := points) (by omega) (by omega)
  obtain ⟨ws, ys2, e2, B2, wnd, wl, wm⟩ := names_go B1 (many := 1 + v1) (by omega)
  have hwl : ws.length ≤ 10 := by rw [wl]; omega
  suffices h : In (q__law_chart xs [.int points, .int most, .int bars, .int room]) (fun p => ∃ ps bs, p.1 = chartD ps bs ∧ Bg p.2 ∧ ChartOk points most bars room ps bs) by
    obtain ⟨p, h1, ps, bs, h2, h3, h4⟩ := h
    exact ⟨ps, bs, p.2, by rw [h1, ← h2], h3, h4⟩
  unfold q__law_chart
  simp only [m4]
  refine In.bnd (a := []) (by simp) ?_
  refine In.bnd (a := []) (by simp) ?_
  unfold forX1
  refine In.bnd (a := (ws.map .str, ys2)) (by simp [e1, e2]) ?_
  dsimp only
  refine In.seq (In.fold (fun done s => ∃ ps : List Pt, s.2 = ps.map ptD ∧ ps.map (·.nm) = done ∧ Bg s.1 ∧ ∀ p ∈ ps, PtOk most room p) ⟨[], rfl, rfl, B2, fun p h => by cases h⟩ ?_) ?_
  · rintro done u rest ⟨zs, acc⟩ eall ⟨ps, ea, en, Bz, ok⟩
    dsimp only at ea Bz
    subst ea
    obtain ⟨a1, zs1, t1, Z1, a10, a11⟩ := take_go Bz (many := room) (by omega) (by omega)
    obtain ⟨a2, zs2, t2, Z2, a20, a21⟩ := take_go Z1 (many := room) (by omega) (by omega)
    obtain ⟨a3, zs3, t3, Z3, a30, a31⟩ := take_go Z2 (many := 6) (by omega) (by omega)
    obtain ⟨a4, zs4, t4, Z4, a40, a41⟩ := take_go Z3 (many := 4) (by omega) (by omega)
    obtain ⟨ks, zs5, t5, Z5, sd⟩ := stands_go Z4 hm hm4
    have hlen : ps.length < lim := by
      have h1 := congrArg List.length en
      have h2 := congrArg List.length eall
      rw [List.length_map] at h1
      rw [List.length_append] at h2
      show _ < 1000000
      omega
    unfold par2X
    refine In.bnd (a := (.int a1, zs1)) (by simp [t1]) ?_
    refine In.bnd (a := (.int a2, zs2)) (by simp [t2]) ?_
    unfold setX
    refine In.bnd (a := (.int (1 + a3), zs3)) (by simp [t3]) ?_
    unfold appX
    refine In.bnd (a := (ptD ⟨u, a1, a2, 1 + a3, 1 + a4, ks⟩, zs5)) (by simp [t4, t5, ptD]) ?_
    refine In.bnd (a := (ps ++ [(⟨u, a1, a2, 1 + a3, 1 + a4, ks⟩ : Pt)]).map ptD) (by simp [hlen]) (In.ok ⟨_, rfl, by rw [List.map_append, en]; rfl, Z5, fun p hp => ?_⟩)
    · rcases List.mem_append.mp hp with hp | hp
      · exact ok p hp
      · rw [List.mem_singleton.mp hp]
        exact ⟨a10, a11, a20, a21, by show 1 ≤ 1 + a3; omega, by show 1 + a3 ≤ 6; omega, by show 1 ≤ 1 + a4; omega, by show 1 + a4 ≤ 4; omega, sd⟩
  · rintro ⟨zs, acc⟩ ⟨ps, ea, en, Bz, ok⟩
    dsimp only at ea Bz
    subst ea
    obtain ⟨v2, zs2, e3, B3, v20, v21⟩ := take_go Bz (many := bars + 1) (by omega) (by omega)
    have hrg : rgOk v2 = true := decide_eq_true (by omega)
    refine In.bnd (a := (rngD 0 v2.toNat, zs2)) (by simp [e3, rng1, hrg]) ?_
    dsimp only
    unfold rngD
    refine In.seq (In.fold (fun done s => ∃ bs : List Bx, s.2 = bs.map bxD ∧ bs.length = done.length ∧ Bg s.1 ∧ ∀ b ∈ bs, BxOk room b) ⟨[], rfl, rfl, B3, fun p h => by cases h⟩ ?_) ?_
    · rintro done u rest ⟨zs, acc⟩ eall ⟨bs, eb, el, Bz, okb⟩
      dsimp only at eb Bz
      subst eb
      obtain ⟨a1, zs1, t1, Z1, a10, a11⟩ := take_go Bz (many := room) (by omega) (by omega)
      obtain ⟨a2, zs2, t2, Z2, a20, a21⟩ := take_go Z1 (many := room) (by omega) (by omega)
      obtain ⟨a3, zs3, t3, Z3, a30, a31⟩ := take_go Z2 (many := 4) (by omega) (by omega)
      obtain ⟨a4, zs4, t4, Z4, a40, a41⟩ := take_go Z3 (many := 4) (by omega) (by omega)
      have hlen : bs.length < lim := by
        have h2 := congrArg List.length eall
        rw [List.length_range, List.length_append] at h2
        show _ < 1000000
        omega
      unfold par2X
      refine In.bnd (a := (.int (a1 - 2), zs1)) (by simp [t1]) ?_
      refine In.bnd (a := (.int (a2 - 2), zs2)) (by simp [t2]) ?_
      unfold setX
      refine In.bnd (a := (.int (a1 - 2 + 1 + a3), zs3)) (by simp [t3]) ?_
      unfold appX
      refine In.bnd (a := (bxD ⟨a1 - 2, a2 - 2, a1 - 2 + 1 + a3, a2 - 2 + 1 + a4⟩, zs4)) (by simp [t4, bxD]) ?_
      refine In.bnd (a := (bs ++ [(⟨a1 - 2, a2 - 2, a1 - 2 + 1 + a3, a2 - 2 + 1 + a4⟩ : Bx)]).map bxD) (by simp [hlen]) (In.ok ⟨_, rfl, by simp [el], Z4, fun p hp => ?_⟩)
      rcases List.mem_append.mp hp with hp | hp
      · exact okb p hp
      · rw [List.mem_singleton.mp hp]
        constructor <;> dsimp only <;> omega
    · rintro ⟨zs, acc⟩ ⟨bs, eb, el, Bz, okb⟩
      dsimp only at eb Bz
      subst eb
      have hpl : ps.length = ws.length := by rw [← en, List.length_map]
      have hbl : bs.length = v2.toNat := by rw [el, List.length_range]
      refine In.bnd (a := chartD ps bs) (by simp [chartD]) (In.ok ⟨ps, bs, rfl, Bz, ?_⟩)
      exact ⟨by rw [hpl, wl]; omega, by rw [hpl, wl]; omega, by omega, by rw [en]; exact wnd, fun p hp => wm _ (by rw [← en]; exact List.mem_map.mpr ⟨p, hp, rfl⟩), ok, by omega, okb⟩
end L2.DL.Cm

namespace L2.DL
open PySem PySem.Spec PyProof.Rows
theorem In.whl {S : Type} {c : S → Res D} {b : S → Res (Cn S)} {Q : S → Prop} {s : S} (P : Nat → S → Prop) (n : Nat) (h0 : P n s) (h : ∀ n s, P n s → (c s = .ok (.bool false) ∧ Q s) ∨ ∃ s' m, m < n ∧ c s = .ok (.bool true) ∧ b s = .ok (.nx s') ∧ P m s') : In (whileQ c b s) (fun r => ∃ s', r = .nx s' ∧ Q s') := by
  obtain ⟨s', h1, h2⟩ := while_inv P h n s h0
  exact ⟨.nx s', h1, s', rfl, h2⟩
mutual
/-- how many nodes data has -/
def sz : D → Nat
  | .list xs => 1 + szL xs
  | .tuple xs => 1 + szL xs
  | _ => 1
def szL : List D → Nat
  | [] => 0
  | d :: ds => sz d + szL ds
end
mutual
def okD : D → Bool
  | .list xs => okL xs
  | .tuple xs => okL xs
  | .dict _ => false
  | _ => true
def okL : List D → Bool
  | [] => true
  | d :: ds => okD d && okL ds
end
theorem sz_pos (d : D) : 1 ≤ sz d := by cases d <;> simp [sz]
theorem szL_len : ∀ ds : List D, ds.length ≤ szL ds
  | [] => Nat.le_refl _
  | d :: ds => by
    have := szL_len ds
    have := sz_pos d
    simp only [szL, List.length_cons]
    omega
theorem szL_app : ∀ ds es : List D, szL (ds ++ es) = szL ds + szL es
  | [], es => by simp [szL]
  | d :: ds, es => by simp only [List.cons_append, szL, szL_app ds es]; omega
theorem okL_app : ∀ ds es : List D, okL (ds ++ es) = (okL ds && okL es)
  | [], es => by simp [okL]
  | d :: ds, es => by simp only [List.cons_append, okL, okL_app ds es, Bool.and_assoc]
theorem okL_get : ∀ {ds : List D} {i : Nat} {d : D}, okL ds = true → ds[i]? = some d → okD d = true
  | d :: ds, 0, e, h, q => by
    simp at q
    subst q
    simp only [okL, Bool.and_eq_true] at h
    exact h.1
  | d :: ds, i + 1, e, h, q => by
    simp only [okL, Bool.and_eq_true] at h
    exact okL_get h.2 (by simpa using q)
  | [], i, e, h, q => by simp at q
def twice (d : D) : D := .tuple [d, d]
theorem zipL_same : ∀ xs : List D, zipL xs xs = xs.map twice
  | [] => rfl
  | x :: xs => by
    have := zipL_same xs
    unfold zipL at this ⊢
    rw [List.zip_cons_cons, List.map_cons, List.map_cons, this]
    rfl
theorem drop_eq {α : Type} {ds : List α} {i : Nat} {d : α} (h : ds[i]? = some d) : ds.drop i = d :: ds.drop (i + 1) := by
  obtain ⟨hl, e⟩ := List.getElem?_eq_some_iff.mp h
  rw [List.drop_eq_getElem_cons hl, e]
theorem neD_self {d : D} (h : okD d = true) (h2 : isT .tuple d = false) (h3 : isT .list d = false) : neD d d = .ok false := by
  cases d with
  | none => simp [neD, near, PyData.depth, PyData.plain, PyData.eqv]
  | bool b => simp
  | int i => simp
  | str x => simp [neD, near, PyData.depth, PyData.plain, PyData.eqv]
  | list xs => simp [isT] at h3
  | tuple xs => simp [isT] at h2
  | dict kvs => simp [okD] at h
namespace Cm
theorem alike_go {d : D} (hk : okD d = true) (hz : sz d ≤ 900000) : q__law_alike [d, d] = .ok (.bool true) := by
  suffices h : In (q__law_alike [d, d]) (fun z => z = .bool true) by
    obtain ⟨z, h1, h2⟩ := h
    rw [h1, h2]
  unfold q__law_alike
  simp only [m2]
  refine In.bnd (a := [twice d]) (by simp [twice]) ?_
  refine In.bnd (a := .int 0) rfl ?_
  refine In.seq (In.whl (Q := fun _ => True) (fun n s => ∃ (ds : List D) (at' : Nat), s = (ds.map twice, .int (at' : Int)) ∧ szL (ds.drop at') = n ∧ at' ≤ ds.length ∧ at' + n ≤ 900000 ∧ okL ds = true) (sz d) ⟨[d], 0, rfl, by simp [szL], by simp, by omega, by simp [okL, hk]⟩ ?_) ?_
  · rintro n s ⟨ds, at', rfl, hn, hat, hb, hok⟩
    by_cases hlt : at' < ds.length
    · obtain ⟨dd, hd⟩ : ∃ dd, ds[at']? = some dd := ⟨ds[at'], List.getElem?_eq_getElem hlt⟩
      have hdr := drop_eq hd
      have hszd : sz dd + szL (ds.drop (at' + 1)) = n := by rw [← hn, hdr]; rfl
      have hpos := sz_pos dd
      have hkd := okL_get hok hd
      have hat2 : atI (ds.map twice) (at' : Int) = some (.tuple [dd, dd]) := by
        rw [atI_lit _ (by rw [List.length_map]; exact hlt), List.getElem?_map, hd]
        rfl
      have hlen : ds.length ≤ at' + 1 + szL (ds.drop (at' + 1)) := by
        have := szL_len (ds.drop (at' + 1))
        rw [List.length_drop] at this
        omega
      have ec : ((at' + 1 : Nat) : Int) = (at' : Int) + 1 := by omega
      by_cases ht : (isT .tuple dd || isT .list dd) = true
      · obtain ⟨t, xs, hs, hsz, hokx⟩ : ∃ t xs, seqD dd = .ok (t, xs) ∧ szL xs + 1 = sz dd ∧ okL xs = true := by
          cases dd with
          | list xs => exact ⟨_, xs, rfl, by simp only [sz]; omega, by simpa [okD] using hkd⟩
          | tuple xs => exact ⟨_, xs, rfl, by simp only [sz]; omega, by simpa [okD] using hkd⟩
          | _ => simp [isT] at ht
        have hl : ds.length + (zipL xs xs).length ≤ lim := by
          rw [zipL_same, List.length_map]
          have := szL_len xs
          show _ ≤ 1000000
          omega
        refine .inr ⟨((ds ++ xs).map twice, .int ((at' + 1 : Nat) : Int)), szL ((ds ++ xs).drop (at' + 1)), ?_, ?_, ?_, ds ++ xs, at' + 1, rfl, rfl, ?_, ?_, ?_⟩
        · rw [List.drop_append_of_le_length (by omega), szL_app]
          omega
        · simp [hlt]
        · rw [ec]
          simp [zipL_same] at hl
          have hh : (isT .tuple dd = true ∧ isT .list dd = false) ∨ (isT .tuple dd = false ∧ isT .list dd = true) := by cases dd <;> simp [isT] at ht ⊢
          rcases hh with ⟨g1, g2⟩ | ⟨g1, g2⟩ <;> simp [hat2, g1, g2, hs, hl, zipL_same]
        · rw [List.length_append]; omega
        · rw [List.drop_append_of_le_length (by omega), szL_app]
          omega
        · rw [okL_app, hok, hokx]; rfl
      · have ht' : (isT .tuple dd || isT .list dd) = false := by simpa using ht
        have h2 : isT .tuple dd = false := by simp at ht'; exact ht'.1
        have h3 : isT .list dd = false := by simp at ht'; exact ht'.2
        refine .inr ⟨(ds.map twice, .int ((at' + 1 : Nat) : Int)), szL (ds.drop (at' + 1)), ?_, ?_, ?_, ds, at' + 1, rfl, rfl, ?_, ?_, hok⟩
        · omega
        · simp [hlt]
        · rw [ec]
          simp [hat2, h2, h3, neD_self hkd h2 h3]
        · omega
        · omega
    · exact .inl ⟨by simp [hlt], trivial⟩
  · rintro r ⟨s', rfl, _⟩
    exact In.ok rfl
end Cm
end L2.DL

namespace L2.DL
open PySem PySem.Spec PyProof.Rows
/-! ## the least of tuples of whole numbers -/
abbrev tk (i : Int) : Int ⊕ List Nat := .inl i
def LX (l m : List (Int ⊕ List Nat)) : Bool := lexLt itemOrd l m
theorem lx_int (a c : Int) : LX [tk a] [tk c] = decide (a < c) := PySem.W.dataLt_int a c
theorem lx_cons (a c : Int) (l m : List (Int ⊕ List Nat)) : LX (tk a :: l) (tk c :: m) = if a = c then LX l m else decide (a < c) := by
  by_cases h : a = c
  · subst h
    rw [if_pos rfl]
    exact PySem.W.lex_pre [tk a] l m
  · rw [if_neg h]
    have := PySem.W.lex_atom (p := tk a) (q := tk c) (fun e => h (by injection e)) l m
    exact this.trans (lx_int a c)
theorem lx_nil : LX [] [] = false := rfl
theorem lt2 (a b c d : Int) : PySem.W.dataLt (.tuple [.int a, .int b]) (.tuple [.int c, .int d]) = decide (a < c ∨ (a = c ∧ b < d)) := by
  show LX [tk 1, tk a, tk 1, tk b, tk 0] [tk 1, tk c, tk 1, tk d, tk 0] = _
  simp only [lx_cons, lx_nil, if_true]
  by_cases h : a = c
  · subst h
    by_cases h2 : b = d <;> simp [h2]
  · simp [h]
theorem lt4 (a s x y a' s' x' y' : Int) : PySem.W.dataLt (.tuple [.int a, .tuple [.int s, .int x, .int y]]) (.tuple [.int a', .tuple [.int s', .int x', .int y']]) = decide (a < a' ∨ (a = a' ∧ (s < s' ∨ (s = s' ∧ (x < x' ∨ (x = x' ∧ y < y')))))) := by
  show LX [tk 1, tk a, tk 1, tk 1, tk s, tk 1, tk x, tk 1, tk y, tk 0, tk 0] [tk 1, tk a', tk 1, tk 1, tk s', tk 1, tk x', tk 1, tk y', tk 0, tk 0] = _
  simp only [lx_cons, lx_nil, if_true]
  by_cases h : a = a'
  · subst h
    by_cases h2 : s = s'
    · subst h2
      by_cases h3 : x = x'
      · subst h3
        by_cases h4 : y = y' <;> simp [h4]
      · simp [h3]
    · simp [h2]
  · simp [h]
section
variable {α : Type} {enc : α → D} {lt : α → α → Bool}
theorem foldl_min (tr : ∀ a b c, lt a b = true → lt b c = true → lt a c = true) (tri : ∀ a b, lt a b = false → lt b a = false → ∀ c, lt c a = lt c b) (ir : ∀ a, lt a a = false) : ∀ (xs : List α) (x : α), xs.foldl (fun m y => if lt y m = true then y else m) x ∈ x :: xs ∧ ∀ y ∈ x :: xs, lt y (xs.foldl (fun m y => if lt y m = true then y else m) x) = false
  | [], x => ⟨List.mem_cons_self, fun y hy => by rw [List.mem_singleton.mp hy]; exact ir x⟩
  | z :: xs, x => by
    have ih := foldl_min tr tri ir xs (if lt z x = true then z else x)
    rw [List.foldl_cons]
    by_cases h : lt z x = true
    · rw [if_pos h] at ih ⊢
      refine ⟨List.mem_cons_of_mem _ ih.1, fun y hy => ?_⟩
      rcases List.mem_cons.mp hy with e | hy
      · subst e
        cases q : lt y (xs.foldl (fun m y => if lt y m = true then y else m) z) with
        | false => rfl
        | true => have := tr _ _ _ h q; rw [ih.2 z List.mem_cons_self] at this; cases this
      · exact ih.2 y hy
    · have h' : lt z x = false := by simpa using h
      rw [if_neg h] at ih ⊢
      refine ⟨?_, fun y hy => ?_⟩
      · rcases List.mem_cons.mp ih.1 with e | e
        · rw [e]; exact List.mem_cons_self
        · exact List.mem_cons_of_mem _ (List.mem_cons_of_mem _ e)
      · rcases List.mem_cons.mp hy with e | hy
        · subst e; exact ih.2 y List.mem_cons_self
        · rcases List.mem_cons.mp hy with e | hy
          · subst e
            have hx := ih.2 x List.mem_cons_self
            cases q : lt y (xs.foldl (fun m y => if lt y m = true then y else m) x) with
            | false => rfl
            | true =>
              cases q2 : lt (xs.foldl (fun m y => if lt y m = true then y else m) x) x with
              | true => have := tr _ _ _ q q2; rw [h'] at this; cases this
              | false => rw [tri _ _ q2 hx y] at q; rw [h'] at q; cases q
          · exact ih.2 y (List.mem_cons_of_mem _ hy)
theorem minD_on (hlt : ∀ a b, PySem.W.dataLt (enc a) (enc b) = lt a b) : ∀ (xs : List α) (x : α), PySem.W.minD (enc x) (xs.map enc) = enc (xs.foldl (fun m y => if lt y m = true then y else m) x) := by
  intro xs
  unfold PySem.W.minD
  induction xs with
  | nil => intro x; rfl
  | cons y xs ih =>
    intro x
    rw [List.map_cons, List.foldl_cons, List.foldl_cons, hlt]
    by_cases h : lt y x = true
    · rw [if_pos h, if_pos h]; exact ih y
    · rw [if_neg h, if_neg h]; exact ih x
theorem depthAll_map {n : Nat} (h : ∀ a, (enc a).depth ≤ n) : ∀ xs : List α, PyData.depthAll (xs.map enc) ≤ n
  | [] => by simp [PyData.depthAll]
  | x :: xs => by
    have := depthAll_map h xs
    have := h x
    simp only [List.map_cons, PyData.depthAll]
    omega
theorem plainAll_map (h : ∀ a, (enc a).plain = true) (xs : List α) : PyData.plainAll (xs.map enc) = true := Cm.plainAll_mem.mpr fun d hd => by
  obtain ⟨a, _, rfl⟩ := List.mem_map.mp hd
  exact h a
theorem min_on (pl : ∀ a, (enc a).plain = true) (al : ∀ a b, PySem.W.alike (enc a) (enc b) = true) (nn : ∀ a, enc a ≠ .none) (dp : ∀ a, (enc a).depth ≤ 50) (hlt : ∀ a b, PySem.W.dataLt (enc a) (enc b) = lt a b)
    (tr : ∀ a b c, lt a b = true → lt b c = true → lt a c = true) (tri : ∀ a b, lt a b = false → lt b a = false → ∀ c, lt c a = lt c b) (ir : ∀ a, lt a a = false) (t : Bool) {xs : List α} (hne : xs ≠ []) :
    ∃ m, m ∈ xs ∧ (∀ y ∈ xs, lt y m = false) ∧ bestS PySem.W.minD (t, xs.map enc) = .ok (enc m) := by
  cases xs with
  | nil => exact absurd rfl hne
  | cons x xs =>
    have f := foldl_min tr tri ir xs x
    refine ⟨_, f.1, f.2, ?_⟩
    unfold bestS
    rw [List.map_cons]
    dsimp only
    have a1 := plainAll_map pl (x :: xs)
    have a2 := depthAll_map dp (x :: xs)
    have a3 : PySem.W.AlikeAll ((x :: xs).map enc) := ⟨fun u hu v hv => by
      obtain ⟨a, _, rfl⟩ := List.mem_map.mp hu
      obtain ⟨b, _, rfl⟩ := List.mem_map.mp hv
      exact al a b, fun u hu => by
      obtain ⟨a, _, rfl⟩ := List.mem_map.mp hu
      exact nn a⟩
    rw [List.map_cons] at a1 a2 a3
    rw [if_pos ⟨a1, a3, by omega⟩, minD_on hlt]
end
end L2.DL

namespace L2.DL
open PySem PySem.Spec PyProof.Rows
theorem in2 (k a b : Int) : inD false (.int k) (.tuple [.int a, .int b]) = .ok (decide (k = a ∨ k = b)) := by
  have e : ∀ x y : Int, (x == y) = decide (y = x) := fun x y => by
    by_cases h : y = x
    · subst h; simp
    · have h' : x ≠ y := fun e => h e.symm
      simp [h, h']
  simp [inD, PyData.depthAll, PyData.depth, PyData.plainAll, PyData.plain, PyData.eqv, e]
theorem sumS_ints {t : Bool} (ns : List Int) : sumS (t, ns.map .int) = .ok (.int ns.sum) := by simp [sumS, intsOf_map]
theorem lim_of {α β : Type} {f : α → β} {xs : List α} (h : xs.length ≤ 100000) : (xs.map f).length ≤ lim := by rw [List.length_map]; show _ ≤ 1000000; omega
/-- a list that is made item by item -/
theorem mapQ {α : Type} {f : α → D} {φ : α → D} {xs : List α} {elt : D → Res D} (hl : xs.length ≤ 100000) (he : ∀ x ∈ xs, elt (f x) = .ok (φ x)) : qcomp (fun _ => .ok (.bool true)) elt (.ok (xs.map f)) = .ok (xs.map φ) := by
  simp only [qcomp, bnd_ok, if_pos (lim_of (f := f) hl)]
  exact compQ_onm fun x hx => ⟨rfl, he x hx⟩
theorem filQ {α : Type} {f : α → D} {π : α → Bool} {φ : α → D} {xs : List α} {test elt : D → Res D} (hl : xs.length ≤ 100000) (ht : ∀ x ∈ xs, test (f x) = .ok (.bool (π x))) (he : ∀ x ∈ xs, π x = true → elt (f x) = .ok (φ x)) : qcomp test elt (.ok (xs.map f)) = .ok ((xs.filter π).map φ) := by
  simp only [qcomp, bnd_ok, if_pos (lim_of (f := f) hl)]
  exact compQ_on fun x hx => ⟨ht x hx, he x hx⟩
theorem sumQ {α : Type} {f : α → D} {g : α → Int} {xs : List α} {elt : D → Res D} (hl : xs.length ≤ 100000) (he : ∀ x ∈ xs, elt (f x) = .ok (.int (g x))) : qv sumS (qview (qofL (qcomp (fun _ => .ok (.bool true)) elt (.ok (xs.map f))))) = .ok (.int (xs.map g).sum) := by
  rw [mapQ hl he]
  have := sumS_ints (t := false) (xs.map g)
  rw [List.map_map] at this
  exact congrArg pur this
theorem lenQ {α : Type} {f : α → D} {π : α → Bool} {φ : α → D} {xs : List α} {test elt : D → Res D} (hl : xs.length ≤ 100000) (ht : ∀ x ∈ xs, test (f x) = .ok (.bool (π x))) (he : ∀ x ∈ xs, π x = true → elt (f x) = .ok (φ x)) : qv lenS (qview (qofL (qcomp test elt (.ok (xs.map f))))) = .ok (.int ((xs.filter π).length : Int)) := by
  rw [filQ hl ht he]
  simp
namespace Cm
/-- the box of a point at a stand -/
def bxOf (p : Pt) (k : Int) : Bx := ⟨if k = 0 ∨ k = 2 then p.x else p.x - p.w, if k = 0 ∨ k = 1 then p.y else p.y - p.h, (if k = 0 ∨ k = 2 then p.x else p.x - p.w) + p.w, (if k = 0 ∨ k = 1 then p.y else p.y - p.h) + p.h⟩
theorem at_nat {α : Type} {xs : List α} {i : Nat} {x : α} (h : xs[i]? = some x) : atI xs (i : Int) = some x := by
  rw [atI_lit _ (List.getElem?_eq_some_iff.mp h).1, h]
theorem law_box_go {ps : List Pt} {bs : List Bx} {i : Nat} {p : Pt} {k : Int} (h : ps[i]? = some p) : q__law_box [chartD ps bs, .int (i : Int), .int k] = .ok (bxD (bxOf p k)) := by
  have hat : atI (ps.map ptD) (i : Int) = some (ptD p) := at_nat (by rw [List.getElem?_map, h]; rfl)
  unfold q__law_box
  by_cases h1 : k = 0 ∨ k = 2 <;> by_cases h2 : k = 0 ∨ k = 1 <;> simp [chartD, hat, ptD, in2, h1, h2, bxD, bxOf]
theorem box_at_go (x y w h k : Int) : q_box_at [.int x, .int y, .int w, .int h, .int k] = .ok (bxD ⟨if k = 0 ∨ k = 2 then x else x - w, if k = 0 ∨ k = 1 then y else y - h, (if k = 0 ∨ k = 2 then x else x - w) + w, (if k = 0 ∨ k = 1 then y else y - h) + h⟩) := by
  unfold q_box_at
  by_cases h1 : k = 0 ∨ k = 2 <;> by_cases h2 : k = 0 ∨ k = 1 <;> simp [in2, h1, h2, bxD]
theorem box_of_go {ps : List Pt} {bs : List Bx} {i : Nat} {p : Pt} {k : Int} (h : ps[i]? = some p) : q_box_of [chartD ps bs, .int (i : Int), .int k] = .ok (bxD (bxOf p k)) := by
  have hat : atI (ps.map ptD) (i : Int) = some (ptD p) := at_nat (by rw [List.getElem?_map, h]; rfl)
  unfold q_box_of
  simp [chartD, hat, ptD, box_at_go, bxOf]
/-- a layout: a stand of each point -/
def IsLay (ps : List Pt) (ks : List Int) : Prop := ks.length = ps.length ∧ ∀ (i : Nat) p k, ps[i]? = some p → ks[i]? = some k → k ∈ p.ks
/-- the boxes of a layout -/
def bxs : List Pt → List Int → List Bx
  | p :: ps, k :: ks => bxOf p k :: bxs ps ks
  | _, _ => []
theorem bxs_get : ∀ {ps : List Pt} {ks : List Int} {i : Nat} {p : Pt} {k : Int}, ps[i]? = some p → ks[i]? = some k → (bxs ps ks)[i]? = some (bxOf p k)
  | p :: ps, k :: ks, 0, _, _, h1, h2 => by simp at h1 h2; subst h1 h2; rfl
  | p :: ps, k :: ks, i + 1, _, _, h1, h2 => by
    show (bxs ps ks)[i]? = _
    exact bxs_get (by simpa using h1) (by simpa using h2)
  | [], _, i, _, _, h1, _ => by simp at h1
  | _ :: _, [], i, _, _, _, h2 => by simp at h2
theorem bxs_len : ∀ {ps : List Pt} {ks : List Int}, ks.length = ps.length → (bxs ps ks).length = ps.length
  | [], [], _ => rfl
  | [], _ :: _, h => by simp at h
  | _ :: _, [], h => by simp at h
  | p :: ps, k :: ks, h => by simp [bxs, bxs_len (ps := ps) (ks := ks) (by simpa using h)]
theorem bxs_mem : ∀ {ps : List Pt} {ks : List Int} {b : Bx}, b ∈ bxs ps ks → ∃ p ∈ ps, ∃ k, b = bxOf p k
  | [], _, b, h => by simp [bxs] at h
  | _ :: _, [], b, h => by simp [bxs] at h
  | p :: ps, k :: ks, b, h => by
    simp only [bxs, List.mem_cons] at h
    rcases h with rfl | h
    · exact ⟨p, List.mem_cons_self, k, rfl⟩
    · obtain ⟨p', h1, k', h2⟩ := bxs_mem h
      exact ⟨p', List.mem_cons_of_mem _ h1, k', h2⟩
theorem lay_map {ps : List Pt} {ks : List Int} (hl : ks.length = ps.length) {φ : Int × Nat → D} (h : ∀ (i : Nat) p k, ps[i]? = some p → ks[i]? = some k → φ (k, i) = bxD (bxOf p k)) : ks.zipIdx.map φ = (bxs ps ks).map bxD := by
  refine List.ext_getElem? fun i => ?_
  rw [List.getElem?_map, List.getElem?_zipIdx, List.getElem?_map]
  by_cases hi : i < ks.length
  · have hi' : i < ps.length := by omega
    have e1 := List.getElem?_eq_getElem hi
    have e2 := List.getElem?_eq_getElem hi'
    rw [bxs_get e2 e1, e1]
    simp only [Option.map_some, Nat.zero_add]
    rw [h i _ _ e2 e1]
  · rw [List.getElem?_eq_none (by omega), List.getElem?_eq_none (by rw [bxs_len hl]; omega)]
    rfl
theorem enum_comp {ps : List Pt} {ks : List Int} (hl : ks.length = ps.length) {test elt : D → Res D} (ht : ∀ d, d ∈ enumL (ks.map .int) → test d = .ok (.bool true)) (he : ∀ (i : Nat) p k, ps[i]? = some p → ks[i]? = some k → elt (.tuple [.int (i : Int), .int k]) = .ok (bxD (bxOf p k))) :
    compQ test elt (enumL (ks.map .int)) = .ok ((bxs ps ks).map bxD) := by
  have e : enumL (ks.map PyData.int) = ks.zipIdx.map fun p => PyData.tuple [.int ((p.2 : Nat) : Int), .int p.1] := by
    unfold enumL
    rw [List.zipIdx_map, List.map_map]
    rfl
  rw [e]
  let φ : Int × Nat → D := fun p => match ps[p.2]? with | some q => bxD (bxOf q p.1) | none => .none
  rw [← lay_map hl (φ := φ) fun i p k h1 h2 => by simp [φ, h1]]
  refine compQ_onm fun x hx => ⟨ht _ (by rw [e]; exact List.mem_map.mpr ⟨x, hx, rfl⟩), ?_⟩
  obtain ⟨k, i⟩ := x
  have hk : ks[i]? = some k := by
    have := List.mem_zipIdx_iff_getElem?.mp hx
    simpa using this
  have hi : i < ps.length := by
    have := (List.getElem?_eq_some_iff.mp hk).1
    omega
  have e2 := List.getElem?_eq_getElem hi
  rw [he i _ _ e2 hk]
  simp [φ, e2]
theorem enum_pair {ns : List Int} {d : D} (h : d ∈ enumL (ns.map PyData.int)) : ∃ a b, d = .tuple [a, b] := by
  unfold enumL at h
  obtain ⟨x, _, rfl⟩ := List.mem_map.mp h
  exact ⟨_, _, rfl⟩
theorem enumL_length (xs : List D) : (enumL xs).length = xs.length := enumL_len
theorem law_boxes_go {ps : List Pt} {bs : List Bx} {ks : List Int} (hl : ks.length = ps.length) (h10 : ps.length ≤ 1000) : q__law_boxes [chartD ps bs, .tuple (ks.map .int)] = .ok (.list ((bxs ps ks).map bxD)) := by
  unfold q__law_boxes
  simp only [m2]
  have hlen : (enumL (ks.map PyData.int)).length ≤ lim := by rw [enumL_len, List.length_map]; show _ ≤ 1000000; omega
  simp only [qofL, qcomp, qenum, bnd_ok, pur_ok, seqD_t, if_pos hlen]
  rw [enum_comp hl (fun d hd => by obtain ⟨a, b, rfl⟩ := enum_pair hd; simp) (fun i p k h1 h2 => by simp [law_box_go h1])]
  rfl
theorem boxes_by_go {ps : List Pt} {bs : List Bx} {ks : List Int} (hl : ks.length = ps.length) (h10 : ps.length ≤ 1000) : q_boxes_by [chartD ps bs, .tuple (ks.map .int)] = .ok (.tuple ((bxs ps ks).map bxD)) := by
  unfold q_boxes_by
  simp only [m2]
  have hlen : (enumL (ks.map PyData.int)).length ≤ lim := by rw [enumL_len, List.length_map]; show _ ≤ 1000000; omega
  simp only [qv, qview, qofL, qcomp, qenum, bnd_ok, pur_ok, seqD_t, if_pos hlen]
  rw [enum_comp hl (fun d hd => by obtain ⟨a, b, rfl⟩ := enum_pair hd; simp) (fun i p k h1 h2 => by simp [box_of_go h1])]
  simp
theorem some_go {xs ds : List D} (B : Bg xs) (h0 : ds ≠ []) (h1 : ds.length < 1000000) (t : Bool) : ∃ d xs', q__law_some xs [if t then .tuple ds else .list ds] = .ok (d, xs') ∧ Bg xs' ∧ d ∈ ds := by
  have hp : 0 < ds.length := List.length_pos_iff.mpr h0
  obtain ⟨v, xs', e1, B', v0, v1⟩ := take_go B (many := (ds.length : Int)) (by omega) (by omega)
  obtain ⟨j, rfl⟩ : ∃ j : Nat, v = (j : Int) := ⟨v.toNat, by omega⟩
  have hj : j < ds.length := by omega
  have hat : atI ds (j : Int) = some ds[j] := at_nat (List.getElem?_eq_getElem hj)
  refine ⟨ds[j], xs', ?_, B', List.getElem_mem hj⟩
  unfold q__law_some
  cases t <;> simp [e1, hat]
/-- a drawn layout -/
theorem drawn_go {xs : List D} {ps : List Pt} {bs : List Bx} {points most bars room : Int} (B : Bg xs) (hm : most ≤ 1000) (C : ChartOk points most bars room ps bs) : ∃ ks xs', q__law_drawn_layout xs [chartD ps bs] = .ok (.tuple (ks.map .int), xs') ∧ Bg xs' ∧ IsLay ps ks := by
  have step := compX_map (test := fun (s : List D) row => xl s (.ok (.bool true))) (elt := fun (s : List D) row => xcallB 2 q__law_some (fun (s : List D) => s) (fun (s : List D) l => l) (xl s (qcons (qofL (qv lstS (qview (q2 ixD (.ok row) (.ok (.int 5)))))) qnil)))
    (P := Bg) (Qd := fun d e => ∃ p ∈ ps, ∃ k ∈ p.ks, d = ptD p ∧ e = .int k) (ds := ps.map ptD) (s := xs) B fun d s Bs hd => by
      obtain ⟨p, hp, rfl⟩ := List.mem_map.mp hd
      have o := C.pts p hp
      have l0 := o.ks.l0
      have l4 := o.ks.l1
      obtain ⟨e, s2, e1, B2, hm⟩ := some_go (ds := p.ks.map .int) Bs (by intro z; rw [List.map_eq_nil_iff] at z; rw [z] at l0; simp at l0) (by rw [List.length_map]; omega) false
      obtain ⟨k, hk, rfl⟩ := List.mem_map.mp hm
      simp at e1
      exact ⟨s, .int k, s2, rfl, by simp [ptD, e1], B2, p, hp, k, hk, rfl, rfl⟩
  obtain ⟨es, xs', h1, B', hl, hq⟩ := step
  rw [List.length_map] at hl
  have hes : ∃ ks : List Int, es = ks.map .int ∧ IsLay ps ks := by
    have : ∀ (i : Nat) e, es[i]? = some e → ∃ p k, ps[i]? = some p ∧ k ∈ p.ks ∧ e = .int k := fun i e he => by
      have hi : i < ps.length := by
        have := (List.getElem?_eq_some_iff.mp he).1
        omega
      have e2 := List.getElem?_eq_getElem hi
      obtain ⟨p, hp, k, hk, g1, g2⟩ := hq i (ptD ps[i]) e (by rw [List.getElem?_map, e2]; rfl) he
      have : p.ks = (ps[i]).ks := by
        simp only [ptD, PyData.tuple.injEq, List.cons.injEq] at g1
        have := g1.2.2.2.2.2.1
        exact ((List.map_inj_right (fun a b h => by injection h)).mp this).symm
      exact ⟨ps[i], k, e2, by rw [← this]; exact hk, g2⟩
    refine ⟨es.map fun e => match e with | .int k => k | _ => 0, ?_, by rw [List.length_map]; exact hl, fun i p k h2 h3 => ?_⟩
    · refine List.ext_getElem? fun i => ?_
      rw [List.getElem?_map, List.getElem?_map]
      cases he : es[i]? with
      | none => rfl
      | some e =>
        obtain ⟨p, k, _, _, rfl⟩ := this i e he
        rfl
    · rw [List.getElem?_map] at h3
      cases he : es[i]? with
      | none => rw [he] at h3; cases h3
      | some e =>
        obtain ⟨p', k', g1, g2, rfl⟩ := this i e he
        rw [he] at h3
        rw [h2] at g1
        cases g1
        cases h3
        exact g2
  obtain ⟨ks, rfl, lay⟩ := hes
  refine ⟨ks, xs', ?_, B', lay⟩
  unfold q__law_drawn_layout
  simp only [m1]
  have hlen : (ps.map ptD).length ≤ lim := by rw [List.length_map]; have := C.n2; show _ ≤ 1000000; omega
  have e1 : xl xs (qseq (q2 ixD (.ok (chartD ps bs)) (.ok (.int 0)))) = .ok (ps.map ptD, xs) := by simp [chartD]
  rw [e1]
  simp only [setX, xv, x1, xofL, xcomp, bnd_ok, if_pos hlen]
  rw [h1]
  simp
end Cm
end L2.DL

namespace L2.DL
open PySem PySem.Spec PyProof.Rows
/-! ## sorted tuples -/
theorem lt3 (a b c a' b' c' : Int) : PySem.W.dataLt (.tuple [.int a, .int b, .int c]) (.tuple [.int a', .int b', .int c']) = decide (a < a' ∨ (a = a' ∧ (b < b' ∨ (b = b' ∧ c < c')))) := by
  show LX [tk 1, tk a, tk 1, tk b, tk 1, tk c, tk 0] [tk 1, tk a', tk 1, tk b', tk 1, tk c', tk 0] = _
  simp only [lx_cons, lx_nil, if_true]
  by_cases h : a = a'
  · subst h
    by_cases h2 : b = b'
    · subst h2
      by_cases h3 : c = c' <;> simp [h3]
    · simp [h2]
  · simp [h]
theorem sort_on {α : Type} {enc : α → D} {lt : α → α → Bool} (pl : ∀ a, (enc a).plain = true) (al : ∀ a b, PySem.W.alike (enc a) (enc b) = true) (tp : ∀ a, ∃ x r, enc a = .tuple (x :: r)) (dp : ∀ a, (enc a).depth ≤ 60) (hlt : ∀ a b, PySem.W.dataLt (enc a) (enc b) = lt a b) {xs : List α} (hl : xs.length ≤ 100000) :
    sortS (false, xs.map enc) = .ok ((xs.mergeSort fun a b => !lt b a).map enc) := by
  unfold sortS
  rw [if_pos ⟨rfl, plainAll_map pl xs, PySem.W.AllAlike.of al, PySem.W.Sortable.tuples tp, lim_of hl, fun d hd => by
    obtain ⟨a, _, rfl⟩ := List.mem_map.mp hd
    exact dp a⟩]
  congr 1
  refine (List.map_mergeSort (r := fun a b => !lt b a) (s := PySem.W.dataLe false (fun d : D => d)) (f := enc) fun a _ b _ => ?_).symm
  show (!lt b a) = !PySem.W.dataLt (enc b) (enc a)
  rw [hlt]
/-! ## the least of pairs -/
def eI2 (p : Int × Int) : D := .tuple [.int p.1, .int p.2]
def lI2 (p q : Int × Int) : Bool := decide (p.1 < q.1 ∨ (p.1 = q.1 ∧ p.2 < q.2))
theorem minI2 (t : Bool) {xs : List (Int × Int)} (h : xs ≠ []) : ∃ m, m ∈ xs ∧ (∀ y ∈ xs, lI2 y m = false) ∧ bestS PySem.W.minD (t, xs.map eI2) = .ok (eI2 m) :=
  min_on (fun _ => rfl) (fun _ _ => rfl) (fun _ e => by cases e) (fun a => by simp [eI2, PyData.depth, PyData.depthAll]) (fun a b => lt2 _ _ _ _) (fun a b c => by simp only [lI2, decide_eq_true_eq]; omega)
    (fun a b h1 h2 c => by
      simp only [lI2, decide_eq_false_iff_not] at h1 h2
      have q1 : a.1 = b.1 := by omega
      have q2 : a.2 = b.2 := by omega
      simp only [lI2, q1, q2]) (fun a => by simp [lI2]) t h
end L2.DL

namespace L2.DL
open PySem PySem.Spec PyProof.Rows
theorem In.eq {β : Type} {r : Res β} {b : β} (h : In r (fun z => z = b)) : r = .ok b := by
  obtain ⟨z, g, rfl⟩ := h
  exact g
theorem In.of {β : Type} {r : Res β} {b : β} (h : r = .ok b) : In r (fun z => z = b) := ⟨b, h, rfl⟩
/-- all turns keep P -/
theorem In.for {S : Type} {step : S → D → Res (Cn S)} {ds : List D} {s : S} (P : S → Prop) (h0 : P s) (h : ∀ d s, P s → d ∈ ds → In (step s d) (fun r => ∃ s', r = .nx s' ∧ P s')) : In (forQ step s ds) (fun r => ∃ s', r = .nx s' ∧ P s') := by
  obtain ⟨s', h1, h2⟩ := forQ_keep (step := step) P h0 fun d s p m => by
    obtain ⟨_, g1, s', rfl, g2⟩ := h d s p m
    exact ⟨s', g1, g2⟩
  exact ⟨_, h1, s', rfl, h2⟩
theorem okL_map {α : Type} {f : α → D} (h : ∀ x, okD (f x) = true) : ∀ l : List α, okL (l.map f) = true
  | [] => rfl
  | x :: l => by simp [okL, h, okL_map h l]
theorem szL_map {α : Type} {f : α → D} {c : Nat} (h : ∀ x, sz (f x) ≤ c) : ∀ l : List α, szL (l.map f) ≤ c * l.length
  | [] => Nat.zero_le _
  | x :: l => by
    have := szL_map h l
    have := h x
    simp only [List.map_cons, szL, List.length_cons, Nat.mul_add, Nat.mul_one]
    omega
theorem rngD_mem {lo : Int} {n : Nat} {d : D} (h : d ∈ rngD lo n) : ∃ i : Nat, i < n ∧ d = .int (lo + (i : Int)) := by
  unfold rngD at h
  obtain ⟨i, hi, rfl⟩ := List.mem_map.mp h
  exact ⟨i, List.mem_range.mp hi, rfl⟩
theorem rngD0 (n : Nat) : rngD 0 n = (List.range n).map fun (i : Nat) => PyData.int (i : Int) := by
  unfold rngD
  simp
theorem rngD_len (lo : Int) (n : Nat) : (rngD lo n).length = n := by unfold rngD; rw [List.length_map, List.length_range]
theorem rng1_nat {n : Nat} (h : n ≤ 1000000) : rng1 (.int (n : Int)) = .ok ((List.range n).map fun (i : Nat) => PyData.int (i : Int)) := by
  have : rgOk (n : Int) = true := decide_eq_true (by omega)
  simp [rng1, this, rngD0]
/-- two rows of which each is sorted are one -/
theorem sortS_bool {bs : List Bool} (hl : bs.length ≤ 1000) : sortS (false, bs.map .bool) = .ok ((bs.mergeSort (fun a b => !a || b)).map .bool) := by
  unfold sortS
  have pl : PyData.plainAll (bs.map PyData.bool) = true := plainAll_map (fun b => rfl) bs
  have h1 : PySem.W.AllAlike (bs.map PyData.bool) := PySem.W.AllAlike.of fun b b' => rfl
  have h2 : PySem.W.Sortable (bs.map PyData.bool) := PySem.W.Sortable.others fun b => ⟨(by intro e; cases e), (by intro xs e; cases e)⟩
  have h3 : ∀ d ∈ bs.map PyData.bool, PyData.depth d ≤ 60 := fun d hd => by
    obtain ⟨n, _, rfl⟩ := List.mem_map.mp hd
    simp [PyData.depth]
  rw [if_pos ⟨rfl, pl, h1, h2, by rw [List.length_map]; show _ ≤ 1000000; omega, h3⟩]
  congr 1
  refine (List.map_mergeSort (r := fun a b => !a || b) (s := PySem.W.dataLe false (fun d : D => d)) (f := PyData.bool) fun a _ b _ => ?_).symm
  cases a <;> cases b <;> decide +kernel
theorem sort_down {bs : List Bool} (h : bs.Pairwise fun a b => b = true → a = true) : bs.mergeSort (fun a b => !a || b) = bs.reverse := by
  refine List.Perm.eq_of_pairwise (le := fun a b : Bool => a = true → b = true) (fun a b _ _ h1 h2 => by cases a <;> cases b <;> simp_all) ?_ ?_ ((List.mergeSort_perm _ _).trans (List.reverse_perm _).symm)
  · refine (List.pairwise_mergeSort (le := fun a b : Bool => !a || b) (fun a b c h1 h2 => by cases a <;> cases b <;> cases c <;> simp_all) (fun a b => by cases a <;> cases b <;> rfl) bs).imp fun {a b} h => by cases a <;> cases b <;> simp_all
  · exact List.pairwise_reverse.mpr h
namespace Cm
/-- a layout, drawn from the rows themselves -/
theorem layout_go {xs : List D} {ps : List Pt} {bs : List Bx} {points most bars room : Int} (B : Bg xs) (hm : most ≤ 1000) (C : ChartOk points most bars room ps bs) :
    ∃ ks xs', xv tupS (x1 seqD (xofL (xcomp (fun (s : List D) row => xl s (.ok (.bool true))) (fun (s : List D) row => xcallB 2 q__law_some (fun (s : List D) => s) (fun (s : List D) l => l) (xl s (qcons (q2 ixD (.ok row) (.ok (.int 5))) qnil))) (xl xs (qseq (q2 ixD (.ok (chartD ps bs)) (.ok (.int 0)))))))) = .ok (.tuple (ks.map .int), xs') ∧ Bg xs' ∧ IsLay ps ks := by
  have step := compX_map (test := fun (s : List D) row => xl s (.ok (.bool true))) (elt := fun (s : List D) row => xcallB 2 q__law_some (fun (s : List D) => s) (fun (s : List D) l => l) (xl s (qcons (q2 ixD (.ok row) (.ok (.int 5))) qnil)))
    (P := Bg) (Qd := fun d e => ∃ p ∈ ps, ∃ k ∈ p.ks, d = ptD p ∧ e = .int k) (ds := ps.map ptD) (s := xs) B fun d s Bs hd => by
      obtain ⟨p, hp, rfl⟩ := List.mem_map.mp hd
      have o := C.pts p hp
      have l0 := o.ks.l0
      have l4 := o.ks.l1
      obtain ⟨e, s2, e1, B2, hm⟩ := some_go (ds := p.ks.map .int) Bs (by intro z; rw [List.map_eq_nil_iff] at z; rw [z] at l0; simp at l0) (by rw [List.length_map]; omega) true
      obtain ⟨k, hk, rfl⟩ := List.mem_map.mp hm
      simp at e1
      exact ⟨s, .int k, s2, rfl, by simp [ptD, e1], B2, p, hp, k, hk, rfl, rfl⟩
  obtain ⟨es, xs', h1, B', hl, hq⟩ := step
  rw [List.length_map] at hl
  have this : ∀ (i : Nat) e, es[i]? = some e → ∃ p k, ps[i]? = some p ∧ k ∈ p.ks ∧ e = .int k := fun i e he => by
    have hi : i < ps.length := by
      have := (List.getElem?_eq_some_iff.mp he).1
      omega
    have e2 := List.getElem?_eq_getElem hi
    obtain ⟨p, hp, k, hk, g1, g2⟩ := hq i (ptD ps[i]) e (by rw [List.getElem?_map, e2]; rfl) he
    have : p.ks = (ps[i]).ks := by
      simp only [ptD, PyData.tuple.injEq, List.cons.injEq] at g1
      have := g1.2.2.2.2.2.1
      exact ((List.map_inj_right (fun a b h => by injection h)).mp this).symm
    exact ⟨ps[i], k, e2, by rw [← this]; exact hk, g2⟩
  have hes : ∃ ks : List Int, es = ks.map .int ∧ IsLay ps ks := by
    refine ⟨es.map fun e => match e with | .int k => k | _ => 0, ?_, by rw [List.length_map]; exact hl, fun i p k h2 h3 => ?_⟩
    · refine List.ext_getElem? fun i => ?_
      rw [List.getElem?_map, List.getElem?_map]
      cases he : es[i]? with
      | none => rfl
      | some e =>
        obtain ⟨p, k, _, _, rfl⟩ := this i e he
        rfl
    · rw [List.getElem?_map] at h3
      cases he : es[i]? with
      | none => rw [he] at h3; cases h3
      | some e =>
        obtain ⟨p', k', g1, g2, rfl⟩ := this i e he
        rw [he] at h3
        rw [h2] at g1
        cases g1
        cases h3
        exact g2
  obtain ⟨ks, rfl, lay⟩ := hes
  refine ⟨ks, xs', ?_, B', lay⟩
  have hlen : (ps.map ptD).length ≤ lim := by rw [List.length_map]; have := C.n2; show _ ≤ 1000000; omega
  have e1 : xl xs (qseq (q2 ixD (.ok (chartD ps bs)) (.ok (.int 0)))) = .ok (ps.map ptD, xs) := by simp [chartD]
  rw [e1]
  simp only [xv, x1, xofL, xcomp, bnd_ok, if_pos hlen]
  rw [h1]
  simp
end Cm
end L2.DL

namespace L2.DL.k48
open PySem PySem.Spec PyProof.Rows
open L2.DL.Cm
noncomputable def k__law_heard : D → Res D := (kTold ("told" : Str))
noncomputable def l__law_heard : List Hd := [⟨[(("NamesError" : Str), false), (("NoPoint" : Str), true), (("Refused" : Str), false)], (some 1), (mSeq (mRet (mTup (mCons (mC (.str ("no point" : Str))) (mCons (mFld 1 ("name" : Str) [("NoPoint" : Str)]) mNil)))) mNx)⟩, ⟨[(("NamesError" : Str), false), (("NoPoint" : Str), false), (("Refused" : Str), true)], (some 1), (mSeq (mRet (mTup (mCons (mC (.str ("refused" : Str))) (mCons (mFld 1 ("why" : Str) [("Refused" : Str)]) mNil)))) mNx)⟩]
noncomputable def q__law_heard : Res D → Res D := qHlp k__law_heard (fun c_2 fs_3 => (qHd [(("NamesError" : Str), false), (("NoPoint" : Str), true), (("Refused" : Str), false)] c_2 (qtup (qcons (.ok (.str ("no point" : Str))) (qcons (qfld c_2 fs_3 ("name" : Str) [("NoPoint" : Str)]) qnil))) (qHd [(("NamesError" : Str), false), (("NoPoint" : Str), false), (("Refused" : Str), true)] c_2 (qtup (qcons (.ok (.str ("refused" : Str))) (qcons (qfld c_2 fs_3 ("why" : Str) [("Refused" : Str)]) qnil))) (.error (.exc c_2 fs_3 [])))))
noncomputable def b_box_zoomed : EvS := (mSeq (mExpr (mCall 1 q_need_bare (mCons (mVar 0) mNil))) (mSeq (mExpr (mCall 2 q_need_point (mCons (mVar 0) (mCons (mVar 2) mNil)))) (mSeq (mRet (mCall 4 q_zoomed (mCons (mVar 0) (mCons (mVar 1) (mCons (mVar 2) (mCons (mVar 3) mNil)))))) mNx)))
noncomputable def q_box_zoomed : List D → Res D := m4 fun chart_1 layout_2 point_3 zoom_4 => (bnd (qcall 1 q_need_bare (qcons (.ok chart_1) qnil)) fun _ => (bnd (qcall 2 q_need_point (qcons (.ok chart_1) (qcons (.ok point_3) qnil))) fun _ => (qcall 4 q_zoomed (qcons (.ok chart_1) (qcons (.ok layout_2) (qcons (.ok point_3) (qcons (.ok zoom_4) qnil)))))))
noncomputable def b_need_two : EvS := (mSeq (mExpr (mCall 1 q_need_bare (mCons (mVar 0) mNil))) (mSeq (mExpr (mCall 2 q_need_point (mCons (mVar 0) (mCons (mVar 1) mNil)))) (mSeq (mExpr (mCall 2 q_need_point (mCons (mVar 0) (mCons (mVar 2) mNil)))) (mSeq (mIfS (mCmp eqD (mVar 1) (mVar 2)) (mSeq (mRaise ("Refused" : Str) [("why" : Str)] (mCons (mC (.str ("same" : Str))) mNil)) mNx) mNx) mNx))))
noncomputable def q_need_two : List D → Res D := m3 fun chart_1 one_2 other_3 => (bnd (qcall 1 q_need_bare (qcons (.ok chart_1) qnil)) fun _ => (bnd (qcall 2 q_need_point (qcons (.ok chart_1) (qcons (.ok one_2) qnil))) fun _ => (bnd (qcall 2 q_need_point (qcons (.ok chart_1) (qcons (.ok other_3) qnil))) fun _ => (qifs (qcmp eqD (.ok one_2) (.ok other_3)) (qraise ("Refused" : Str) [("why" : Str)] (qcons (.ok (.str ("same" : Str))) qnil)) (.ok .none)))))
noncomputable def b_are_in_the_way : EvS := (mSeq (mRet (mCall 2 q_do_clash (mCons (mCall 4 q_zoomed (mCons (mVar 0) (mCons (mVar 1) (mCons (mVar 2) (mCons (mVar 4) mNil))))) (mCons (mCall 4 q_zoomed (mCons (mVar 0) (mCons (mVar 1) (mCons (mVar 3) (mCons (mVar 4) mNil))))) mNil)))) mNx)
noncomputable def q_are_in_the_way : List D → Res D := m5 fun chart_1 layout_2 one_3 other_4 zoom_5 => (qcall 2 q_do_clash (qcons (qcall 4 q_zoomed (qcons (.ok chart_1) (qcons (.ok layout_2) (qcons (.ok one_3) (qcons (.ok zoom_5) qnil))))) (qcons (qcall 4 q_zoomed (qcons (.ok chart_1) (qcons (.ok layout_2) (qcons (.ok other_4) (qcons (.ok zoom_5) qnil))))) qnil)))
noncomputable def b_parting : EvS := (mSeq (mPar [4, 5] [(.d (mC (.int 1))), (.d (mC (.int 20000)))]) (mSeq (mIfS (mCall 5 q_are_in_the_way (mCons (mVar 0) (mCons (mVar 1) (mCons (mVar 2) (mCons (mVar 3) (mCons (mVar 5) mNil)))))) (mSeq (mRet (mC .none)) mNx) mNx) (mSeq (mWhile (mCmp ltD (mVar 4) (mVar 5)) (mSeq (mSet 6 (mOp fdivD (mOp addD (mVar 4) (mVar 5)) (mC (.int 2)))) (mSeq (mAsg (mIf (mCall 5 q_are_in_the_way (mCons (mVar 0) (mCons (mVar 1) (mCons (mVar 2) (mCons (mVar 3) (mCons (mVar 6) mNil)))))) (mTup (mCons (mOp addD (mVar 6) (mC (.int 1))) (mCons (mVar 5) mNil))) (mTup (mCons (mVar 4) (mCons (mVar 6) mNil)))) (gT (gsC (gN 4) (gsC (gN 5) gsN)) 2)) (mKill [6] mNx)))) (mSeq (mRet (mVar 4)) mNx))))
noncomputable def q_parting : List D → Res D := m4 fun chart_1 layout_2 one_3 other_4 => (bnd (.ok (.int 1)) fun low_5 => (bnd (.ok (.int 20000)) fun high_6 => (qifs (qcall 5 q_are_in_the_way (qcons (.ok chart_1) (qcons (.ok layout_2) (qcons (.ok one_3) (qcons (.ok other_4) (qcons (.ok high_6) qnil)))))) (.ok .none) (bnd (whileQ (fun (s_8 : D × D) => (qcmp ltD (.ok s_8.1) (.ok s_8.2))) (fun (s_8 : D × D) => (bnd (q2 fdivD (q2 addD (.ok s_8.1) (.ok s_8.2)) (.ok (.int 2))) fun (middle_10 : D) => (bnd (qifs (qcall 5 q_are_in_the_way (qcons (.ok chart_1) (qcons (.ok layout_2) (qcons (.ok one_3) (qcons (.ok other_4) (qcons (.ok middle_10) qnil)))))) (qtup (qcons (q2 addD (.ok middle_10) (.ok (.int 1))) (qcons (.ok s_8.2) qnil))) (qtup (qcons (.ok s_8.1) (qcons (.ok middle_10) qnil)))) fun d_11 => bnd (pur (unp (.t [.n, .n]) d_11)) (m2 fun low_12 high_13 => (.ok (.nx (low_12, high_13))))))) (low_5, high_6)) (qCn (fun (s_9 : D × D) => (.ok s_9.1)) (fun _ => stuck))))))
noncomputable def b_parted_at : EvS := (mSeq (mExpr (mCall 3 q_need_two (mCons (mVar 0) (mCons (mVar 2) (mCons (mVar 3) mNil))))) (mSeq (mRet (mCall 4 q_parting (mCons (mVar 0) (mCons (mVar 1) (mCons (mVar 2) (mCons (mVar 3) mNil)))))) mNx))
noncomputable def q_parted_at : List D → Res D := m4 fun chart_1 layout_2 one_3 other_4 => (bnd (qcall 3 q_need_two (qcons (.ok chart_1) (qcons (.ok one_3) (qcons (.ok other_4) qnil)))) fun _ => (qcall 4 q_parting (qcons (.ok chart_1) (qcons (.ok layout_2) (qcons (.ok one_3) (qcons (.ok other_4) qnil))))))
noncomputable def b_do_clash_at : EvS := (mSeq (mExpr (mCall 3 q_need_two (mCons (mVar 0) (mCons (mVar 2) (mCons (mVar 3) mNil))))) (mSeq (mRet (mCall 5 q_are_in_the_way (mCons (mVar 0) (mCons (mVar 1) (mCons (mVar 2) (mCons (mVar 3) (mCons (mVar 4) mNil))))))) mNx))
noncomputable def q_do_clash_at : List D → Res D := m5 fun chart_1 layout_2 one_3 other_4 zoom_5 => (bnd (qcall 3 q_need_two (qcons (.ok chart_1) (qcons (.ok one_3) (qcons (.ok other_4) qnil)))) fun _ => (qcall 5 q_are_in_the_way (qcons (.ok chart_1) (qcons (.ok layout_2) (qcons (.ok one_3) (qcons (.ok other_4) (qcons (.ok zoom_5) qnil)))))))
noncomputable def b_law : EvS := (mSeq (mSetOwn 1 (mCallL 1 q__law_bag (mCons (mVar 0) mNil))) (mSeq (mFor (mRng1 (mC (.int 8))) (gN 2) (mSeq (mSet 3 (mCallB 5 q__law_chart 1 (mCons (mC (.int 4)) (mCons (mC (.int 4)) (mCons (mC (.int 0)) (mCons (mC (.int 6)) mNil)))))) (mSeq (mPar [4, 5] [(.d (mV tupS (mView (mOfL (mComp (mSeqI (mOp ixD (mVar 3) (mC (.int 0)))) [13] (gN 13) (mC (.bool true)) (mCallB 2 q__law_some 1 (mCons (mOp ixD (mVar 13) (mC (.int 5))) mNil))))))), (.d (mV lenS (mView (mOp ixD (mVar 3) (mC (.int 0))))))]) (mSeq (mSet 6 (mCallB 2 q__law_some 1 (mCons (mOfL (mLst (mCons (mC (.int 1)) (mCons (mC (.int 2)) (mCons (mC (.int 3)) (mCons (mC (.int 7)) (mCons (mC (.int 20000)) mNil))))))) mNil))) (mSeq (mIfS (mNot (mCall 2 q__law_alike (mCons (mOfL (mComp (mRng1 (mVar 5)) [14] (gN 14) (mC (.bool true)) (mCall 4 q_box_zoomed (mCons (mVar 3) (mCons (mVar 4) (mCons (mVar 14) (mCons (mVar 6) mNil))))))) (mCons (mOfL (mComp (mRng1 (mVar 5)) [14] (gN 14) (mC (.bool true)) (mCall 4 q__law_zoomed (mCons (mVar 3) (mCons (mVar 4) (mCons (mVar 14) (mCons (mVar 6) mNil))))))) mNil)))) (mSeq (mRet (mC (.bool false))) mNx) mNx) (mSeq (mFor (mRng1 (mVar 5)) (gN 7) (mSeq (mFor (mSeqI (mOfL (mComp (mRng1 (mVar 5)) [15] (gN 15) (mCmp neD (mVar 15) (mVar 7)) (mVar 15)))) (gN 8) (mSeq (mSet 9 (mCall 4 q__law_parted (mCons (mVar 3) (mCons (mVar 4) (mCons (mVar 7) (mCons (mVar 8) mNil)))))) (mSeq (mSet 10 (mOfL (mComp (mSeqI (mTup (mCons (mC (.int 1)) (mCons (mC (.int 2)) (mCons (mC (.int 3)) (mCons (mC (.int 40)) (mCons (mC (.int 20000)) mNil))))))) [15] (gN 15) (mC (.bool true)) (mCall 5 q__law_hit (mCons (mVar 3) (mCons (mVar 4) (mCons (mVar 7) (mCons (mVar 8) (mCons (mVar 15) mNil))))))))) (mSeq (mIfS (mNot (mCall 2 q__law_alike (mCons (mOfL (mLst (mCons (mCall 4 q_parted_at (mCons (mVar 3) (mCons (mVar 4) (mCons (mVar 7) (mCons (mVar 8) mNil))))) (mCons (mOfL (mComp (mSeqI (mTup (mCons (mC (.int 1)) (mCons (mC (.int 2)) (mCons (mC (.int 3)) (mCons (mC (.int 40)) (mCons (mC (.int 20000)) mNil))))))) [15] (gN 15) (mC (.bool true)) (mCall 5 q_do_clash_at (mCons (mVar 3) (mCons (mVar 4) (mCons (mVar 7) (mCons (mVar 8) (mCons (mVar 15) mNil)))))))) mNil)))) (mCons (mOfL (mLst (mCons (mVar 9) (mCons (mVar 10) mNil)))) mNil)))) (mSeq (mRet (mC (.bool false))) mNx) mNx) (mSeq (mIfS (mOr (mCmp neD (mVar 10) (mUn revD (mOfL (mVL sortS (mView (mVar 10)))))) (mAnd (mCmp (isD false) (mVar 9) (mC .none)) (mCmp (inD false) (mC (.bool false)) (mVar 10)))) (mSeq (mRet (mC (.bool false))) mNx) mNx) (mKill [8, 9, 10] mNx)))))) (mKill [7] mNx))) (mSeq (mSetOwn 11 (mLst (mCons (mLam (qHelp k__law_heard l__law_heard 2) (mCall 4 q_box_zoomed (mCons (mVar 3) (mCons (mVar 4) (mCons (mVar 5) (mCons (mC (.int 1)) mNil)))))) mNil))) (mSeq (mApp 11 (mLam (qHelp k__law_heard l__law_heard 2) (mCall 4 q_parted_at (mCons (mVar 3) (mCons (mVar 4) (mCons (mC (.int 0)) (mCons (mC .none) mNil))))))) (mSeq (mApp 11 (mLam (qHelp k__law_heard l__law_heard 2) (mCall 4 q_parted_at (mCons (mVar 3) (mCons (mVar 4) (mCons (mC (.bool true)) (mCons (mC (.int 0)) mNil))))))) (mSeq (mApp 11 (mLam (qHelp k__law_heard l__law_heard 2) (mCall 5 q_do_clash_at (mCons (mVar 3) (mCons (mVar 4) (mCons (mC (.int 0)) (mCons (mC (.int 0)) (mCons (mC (.int 1)) mNil)))))))) (mFrz 11 (mSeq (mIfS (mNot (mCall 2 q__law_alike (mCons (mVar 11) (mCons (mOfL (mLst (mCons (mTup (mCons (mC (.str ("no point" : Str))) (mCons (mVar 5) mNil))) (mCons (mTup (mCons (mC (.str ("no point" : Str))) (mCons (mC .none) mNil))) (mCons (mTup (mCons (mC (.str ("no point" : Str))) (mCons (mC (.bool true)) mNil))) (mCons (mTup (mCons (mC (.str ("refused" : Str))) (mCons (mC (.str ("same" : Str))) mNil))) mNil)))))) mNil)))) (mSeq (mRet (mC (.bool false))) mNx) mNx) (mSeq (mSet 12 (mTup (mCons (mOp ixD (mVar 3) (mC (.int 0))) (mCons (mTup (mCons (mTup (mCons (mC (.int 0)) (mCons (mC (.int 0)) (mCons (mC (.int 1)) (mCons (mC (.int 1)) mNil))))) mNil)) mNil)))) (mSeq (mSetOwn 11 (mLst (mCons (mLam (qHelp k__law_heard l__law_heard 2) (mCall 4 q_box_zoomed (mCons (mVar 12) (mCons (mVar 4) (mCons (mVar 5) (mCons (mC (.int 1)) mNil)))))) mNil))) (mSeq (mApp 11 (mLam (qHelp k__law_heard l__law_heard 2) (mCall 4 q_parted_at (mCons (mVar 12) (mCons (mVar 4) (mCons (mC (.int 0)) (mCons (mC (.int 0)) mNil))))))) (mFrz 11 (mSeq (mIfS (mNot (mCall 2 q__law_alike (mCons (mVar 11) (mCons (mOp mulD (mOfL (mLst (mCons (mTup (mCons (mC (.str ("refused" : Str))) (mCons (mC (.str ("bars" : Str))) mNil))) mNil))) (mC (.int 2))) mNil)))) (mSeq (mRet (mC (.bool false))) mNx) mNx) (mKill [2, 3, 4, 5, 6, 11, 12] mNx)))))))))))))))))) (mSeq (mRet (mC (.bool true))) mNx)))
noncomputable def q_law : List D → Res D := m1 fun script_1 => (bnd (qcall 1 q__law_bag (qcons (.ok script_1) qnil)) fun (bag_2 : List D) => (bnd (qrng1 (.ok (.int 8))) fun ds_6 => (bnd (forQ (fun (s_4 : List D) turn_7 => (setX (xcallB 5 q__law_chart (fun (s : List D) => s) (fun (s : List D) l => l) (xl s_4 (qcons (.ok (.int 4)) (qcons (.ok (.int 4)) (qcons (.ok (.int 0)) (qcons (.ok (.int 6)) qnil)))))) fun chart_8 (s_10 : List D) => (par2X (xv tupS (x1 seqD (xofL (xcomp (fun (s_12 : List D) row_13 => (xl s_12 (.ok (.bool true)))) (fun (s_12 : List D) row_13 => (xcallB 2 q__law_some (fun (s : List D) => s) (fun (s : List D) l => l) (xl s_12 (qcons (q2 ixD (.ok row_13) (.ok (.int 5))) qnil)))) (xl s_10 (qseq (q2 ixD (.ok chart_8) (.ok (.int 0))))))))) (fun (s_16 : List D) => (xl s_16 (qv lenS (qview (q2 ixD (.ok chart_8) (.ok (.int 0))))))) fun layout_18 many_19 (s_20 : List D) => (setX (xcallB 2 q__law_some (fun (s : List D) => s) (fun (s : List D) l => l) (xl s_20 (qcons (qofL (qlst (qcons (.ok (.int 1)) (qcons (.ok (.int 2)) (qcons (.ok (.int 3)) (qcons (.ok (.int 7)) (qcons (.ok (.int 20000)) qnil))))))) qnil))) fun zoom_21 (s_23 : List D) => (qifs (qnot (qcall 2 q__law_alike (qcons (qofL (qcomp (fun point_25 => (.ok (.bool true))) (fun point_25 => (qcall 4 q_box_zoomed (qcons (.ok chart_8) (qcons (.ok layout_18) (qcons (.ok point_25) (qcons (.ok zoom_21) qnil)))))) (qrng1 (.ok many_19)))) (qcons (qofL (qcomp (fun point_26 => (.ok (.bool true))) (fun point_26 => (qcall 4 q__law_zoomed (qcons (.ok chart_8) (qcons (.ok layout_18) (qcons (.ok point_26) (qcons (.ok zoom_21) qnil)))))) (qrng1 (.ok many_19)))) qnil)))) (bnd (.ok (.bool false)) fun d_27 => .ok (Cn.rt d_27)) (bnd (qrng1 (.ok many_19)) fun ds_31 => (bnd (forQ (fun (s_29 : Unit) one_32 => (bnd (qseq (qofL (qcomp (fun its_36 => (qcmp neD (.ok its_36) (.ok one_32))) (fun its_36 => (.ok its_36)) (qrng1 (.ok many_19))))) fun ds_37 => (bnd (forQ (fun (s_34 : Unit) other_38 => (bnd (qcall 4 q__law_parted (qcons (.ok chart_8) (qcons (.ok layout_18) (qcons (.ok one_32) (qcons (.ok other_38) qnil))))) fun (due_39 : D) => (bnd (qofL (qcomp (fun its_41 => (.ok (.bool true))) (fun its_41 => (qcall 5 q__law_hit (qcons (.ok chart_8) (qcons (.ok layout_18) (qcons (.ok one_32) (qcons (.ok other_38) (qcons (.ok its_41) qnil))))))) (qseq (qtup (qcons (.ok (.int 1)) (qcons (.ok (.int 2)) (qcons (.ok (.int 3)) (qcons (.ok (.int 40)) (qcons (.ok (.int 20000)) qnil))))))))) fun (hits_40 : D) => (qifs (qnot (qcall 2 q__law_alike (qcons (qofL (qlst (qcons (qcall 4 q_parted_at (qcons (.ok chart_8) (qcons (.ok layout_18) (qcons (.ok one_32) (qcons (.ok other_38) qnil))))) (qcons (qofL (qcomp (fun its_42 => (.ok (.bool true))) (fun its_42 => (qcall 5 q_do_clash_at (qcons (.ok chart_8) (qcons (.ok layout_18) (qcons (.ok one_32) (qcons (.ok other_38) (qcons (.ok its_42) qnil))))))) (qseq (qtup (qcons (.ok (.int 1)) (qcons (.ok (.int 2)) (qcons (.ok (.int 3)) (qcons (.ok (.int 40)) (qcons (.ok (.int 20000)) qnil))))))))) qnil)))) (qcons (qofL (qlst (qcons (.ok due_39) (qcons (.ok hits_40) qnil)))) qnil)))) (bnd (.ok (.bool false)) fun d_43 => .ok (Cn.rt d_43)) (qifs (qor (qcmp neD (.ok hits_40) (q1 revD (qofL (qv sortS (qview (.ok hits_40)))))) (qand (qcmp (isD false) (.ok due_39) (.ok .none)) (qcmp (inD false) (.ok (.bool false)) (.ok hits_40)))) (bnd (.ok (.bool false)) fun d_44 => .ok (Cn.rt d_44)) (.ok (.nx ()))))))) () ds_37) (qCn (fun (s_35 : Unit) => (.ok (.nx ()))) (fun d => .ok (.rt d)))))) () ds_31) (qCn (fun (s_30 : Unit) => (bnd (qlst (qcons (qLam q__law_heard (qcall 4 q_box_zoomed (qcons (.ok chart_8) (qcons (.ok layout_18) (qcons (.ok many_19) (qcons (.ok (.int 1)) qnil)))))) qnil)) fun (found_45 : List D) => (bnd (qLam q__law_heard (qcall 4 q_parted_at (qcons (.ok chart_8) (qcons (.ok layout_18) (qcons (.ok (.int 0)) (qcons (.ok .none) qnil)))))) fun d_47 => bnd (appQ found_45 d_47) fun found_46 => (bnd (qLam q__law_heard (qcall 4 q_parted_at (qcons (.ok chart_8) (qcons (.ok layout_18) (qcons (.ok (.bool true)) (qcons (.ok (.int 0)) qnil)))))) fun d_49 => bnd (appQ found_46 d_49) fun found_48 => (bnd (qLam q__law_heard (qcall 5 q_do_clash_at (qcons (.ok chart_8) (qcons (.ok layout_18) (qcons (.ok (.int 0)) (qcons (.ok (.int 0)) (qcons (.ok (.int 1)) qnil))))))) fun d_51 => bnd (appQ found_48 d_51) fun found_50 => (qifs (qnot (qcall 2 q__law_alike (qcons (.ok (.list found_50)) (qcons (qofL (qlst (qcons (qtup (qcons (.ok (.str ("no point" : Str))) (qcons (.ok many_19) qnil))) (qcons (qtup (qcons (.ok (.str ("no point" : Str))) (qcons (.ok .none) qnil))) (qcons (qtup (qcons (.ok (.str ("no point" : Str))) (qcons (.ok (.bool true)) qnil))) (qcons (qtup (qcons (.ok (.str ("refused" : Str))) (qcons (.ok (.str ("same" : Str))) qnil))) qnil)))))) qnil)))) (bnd (.ok (.bool false)) fun d_52 => .ok (Cn.rt d_52)) (bnd (qtup (qcons (q2 ixD (.ok chart_8) (.ok (.int 0))) (qcons (qtup (qcons (qtup (qcons (.ok (.int 0)) (qcons (.ok (.int 0)) (qcons (.ok (.int 1)) (qcons (.ok (.int 1)) qnil))))) qnil)) qnil))) fun (barred_53 : D) => (bnd (qlst (qcons (qLam q__law_heard (qcall 4 q_box_zoomed (qcons (.ok barred_53) (qcons (.ok layout_18) (qcons (.ok many_19) (qcons (.ok (.int 1)) qnil)))))) qnil)) fun (found_54 : List D) => (bnd (qLam q__law_heard (qcall 4 q_parted_at (qcons (.ok barred_53) (qcons (.ok layout_18) (qcons (.ok (.int 0)) (qcons (.ok (.int 0)) qnil)))))) fun d_56 => bnd (appQ found_54 d_56) fun found_55 => (qifs (qnot (qcall 2 q__law_alike (qcons (.ok (.list found_55)) (qcons (q2 mulD (qofL (qlst (qcons (qtup (qcons (.ok (.str ("refused" : Str))) (qcons (.ok (.str ("bars" : Str))) qnil))) qnil))) (.ok (.int 2))) qnil)))) (bnd (.ok (.bool false)) fun d_57 => .ok (Cn.rt d_57)) (.ok (.nx s_23)))))))))))) (fun d => .ok (.rt d)))))))))) bag_2 ds_6) (qCn (fun (s_5 : List D) => (.ok (.bool true))) (fun d => .ok d)))))
end L2.DL.k48

namespace L2.DL.k48
open PySem PySem.Spec PyProof.Rows
open L2.DL.Cm
theorem s__law_heard : ∀ r d, q__law_heard r = .ok d → qHelp k__law_heard l__law_heard 2 r = .ok d := hlp_ref fun c_2 fs_3 => (hds_cons (I1 := IP) (sOne (sAss (sRetP (eTup (eCons eC (eCons (eFld rfl) eNil))) fun _ => .inl rfl))) (fun _ _ _ h => h) (hds_cons (I1 := IP) (sOne (sAss (sRetP (eTup (eCons eC (eCons (eFld rfl) eNil))) fun _ => .inl rfl))) (fun _ _ _ h => h) hds_nil))
theorem s_box_zoomed : ∀ ds, RefR (fnP 4 b_box_zoomed ds) (q_box_zoomed ds) := rm4 fun chart_1 layout_2 point_3 zoom_4 => ref_P (sOne (sAss (sExpr (eCall (eCons (eV rfl) eNil)) (sAss (sExpr (eCall (eCons (eV rfl) (eCons (eV rfl) eNil))) (sAss (sRetP (eCall (eCons (eV rfl) (eCons (eV rfl) (eCons (eV rfl) (eCons (eV rfl) eNil))))) fun _ => .inl rfl)))))))
theorem s_need_two : ∀ ds, RefR (fnP 3 b_need_two ds) (q_need_two ds) := rm3 fun chart_1 one_2 other_3 => ref_P (sOne (sAss (sExpr (eCall (eCons (eV rfl) eNil)) (sAss (sExpr (eCall (eCons (eV rfl) (eCons (eV rfl) eNil))) (sAss (sExpr (eCall (eCons (eV rfl) (eCons (eV rfl) eNil))) (sAss (sIf (eCmp (eV rfl) (eV rfl)) (sAss (sRaise (eCons eC eNil))) (sNx' (sNx' (sNx (.inr ⟨rfl, rfl⟩)))))))))))))
theorem s_are_in_the_way : ∀ ds, RefR (fnP 5 b_are_in_the_way ds) (q_are_in_the_way ds) := rm5 fun chart_1 layout_2 one_3 other_4 zoom_5 => ref_P (sOne (sAss (sRetP (eCall (eCons (eCall (eCons (eV rfl) (eCons (eV rfl) (eCons (eV rfl) (eCons (eV rfl) eNil))))) (eCons (eCall (eCons (eV rfl) (eCons (eV rfl) (eCons (eV rfl) (eCons (eV rfl) eNil))))) eNil))) fun _ => .inl rfl)))
theorem s_parting : ∀ ds, RefR (fnP 7 b_parting ds) (q_parting ds) := rm4 fun chart_1 layout_2 one_3 other_4 => ref_P (sOne (sAss (sPar_dd eC eC fun low_5 high_6 => (sAss (sIf (eCall (eCons (eV rfl) (eCons (eV rfl) (eCons (eV rfl) (eCons (eV rfl) (eCons (eV rfl) eNil)))))) (sAss (sRetP eC fun _ => .inl rfl)) (sNx' (sAss (sWhile (R := (fun (r_7 : D × D) => [some (.dat chart_1), some (.dat layout_2), some (.dat one_3), some (.dat other_4), some (.dat r_7.1), some (.dat r_7.2), none])) rfl (fun s_8 => (eCmp (eV rfl) (eV rfl))) (fun s_8 => sOne (sAss (sSet (eOp (eOp (eV rfl) (eV rfl)) eC) fun middle_10 => (sAss (sAsg (N := 7) (eIf (eCall (eCons (eV rfl) (eCons (eV rfl) (eCons (eV rfl) (eCons (eV rfl) (eCons (eV rfl) eNil)))))) (eTup (eCons (eOp (eV rfl) eC) (eCons (eV rfl) eNil))) (eTup (eCons (eV rfl) (eCons (eV rfl) eNil)))) (tg_t (tgs_c (tg_n (N := 7)) (tgs_c (tg_n (N := 7)) tgs_n))) (sm2 fun low_12 high_13 => (sKill (sNx' (sNx (cnvNx rfl)))))))))) (fun s_9 => (sAss (sRetP (eV rfl) fun _ => .inl rfl))) (fun _ _ => Sim.no)))))))))
theorem s_parted_at : ∀ ds, RefR (fnP 4 b_parted_at ds) (q_parted_at ds) := rm4 fun chart_1 layout_2 one_3 other_4 => ref_P (sOne (sAss (sExpr (eCall (eCons (eV rfl) (eCons (eV rfl) (eCons (eV rfl) eNil)))) (sAss (sRetP (eCall (eCons (eV rfl) (eCons (eV rfl) (eCons (eV rfl) (eCons (eV rfl) eNil))))) fun _ => .inl rfl)))))
theorem s_do_clash_at : ∀ ds, RefR (fnP 5 b_do_clash_at ds) (q_do_clash_at ds) := rm5 fun chart_1 layout_2 one_3 other_4 zoom_5 => ref_P (sOne (sAss (sExpr (eCall (eCons (eV rfl) (eCons (eV rfl) (eCons (eV rfl) eNil)))) (sAss (sRetP (eCall (eCons (eV rfl) (eCons (eV rfl) (eCons (eV rfl) (eCons (eV rfl) (eCons (eV rfl) eNil)))))) fun _ => .inl rfl)))))
theorem s_law : ∀ ds, RefR (fnP 16 b_law ds) (q_law ds) := rm1 fun script_1 => ref_P (sOne (sAss (sSetOwn (eCallL (eCons (eV rfl) eNil)) fun bag_2 => (sAss (sForC1 (R := (fun (r_3 : List D) => [some (.dat script_1), some (.ob false (.lst r_3)), none, none, none, none, none, none, none, none, none, none, none, none, none, none])) (N := 16) (eRng1 eC) rfl (fun s_4 turn_7 => sOne (sAss (sSetX (R := (fun (r_9 : List D) => [some (.dat script_1), some (.ob false (.lst r_9)), some (.dat turn_7), none, none, none, none, none, none, none, none, none, none, none, none, none])) (xCallB (s := s_4) (xLift (s := s_4) (eCons eC (eCons eC (eCons eC (eCons eC eNil)))))) fun chart_8 s_10 => (sAss (sPar2X (R := (fun (r_17 : List D) => [some (.dat script_1), some (.ob false (.lst r_17)), some (.dat turn_7), some (.dat chart_8), none, none, none, none, none, none, none, none, none, none, none, none])) (xMV (s := s_10) (xView (s := s_10) (xOfL (s := s_10) (xComp1 (s := s_10) (N := 16) (xLift (s := s_10) (eSeqI (eOp (eV rfl) eC))) (fun row_13 s_12 => (xLift (s := s_12) eC)) (fun row_13 s_12 => (xCallB (s := s_12) (xLift (s := s_12) (eCons (eOp (eV rfl) eC) eNil)))))))) (fun s_16 => (xLift (s := s_16) (eMV (eView (eOp (eV rfl) eC))))) fun layout_18 many_19 s_20 => (sAss (sSetX (R := (fun (r_22 : List D) => [some (.dat script_1), some (.ob false (.lst r_22)), some (.dat turn_7), some (.dat chart_8), some (.dat layout_18), some (.dat many_19), none, none, none, none, none, none, none, none, none, none])) (xCallB (s := s_20) (xLift (s := s_20) (eCons (eOfL (eLst (eCons eC (eCons eC (eCons eC (eCons eC (eCons eC eNil))))))) eNil))) fun zoom_21 s_23 => (sAss (sIf (eNot (eCall (eCons (eOfL (eComp1 (N := 16) (eRng1 (eV rfl)) (fun point_25 => eC) (fun point_25 => (eCall (eCons (eV rfl) (eCons (eV rfl) (eCons (eV rfl) (eCons (eV rfl) eNil)))))))) (eCons (eOfL (eComp1 (N := 16) (eRng1 (eV rfl)) (fun point_26 => eC) (fun point_26 => (eCall (eCons (eV rfl) (eCons (eV rfl) (eCons (eV rfl) (eCons (eV rfl) eNil)))))))) eNil)))) (sAss (sRet (r := fun d_27 => Cn.rt d_27) eC fun _ => rfl)) (sNx' (sAss (sForC1 (R := (fun (r_28 : Unit) => [some (.dat script_1), some (.ob false (.lst s_23)), some (.dat turn_7), some (.dat chart_8), some (.dat layout_18), some (.dat many_19), some (.dat zoom_21), none, none, none, none, none, none, none, none, none])) (N := 16) (eRng1 (eV rfl)) rfl (fun s_29 one_32 => sOne (sAss (sForC1 (R := (fun (r_33 : Unit) => [some (.dat script_1), some (.ob false (.lst s_23)), some (.dat turn_7), some (.dat chart_8), some (.dat layout_18), some (.dat many_19), some (.dat zoom_21), some (.dat one_32), none, none, none, none, none, none, none, none])) (N := 16) (eSeqI (eOfL (eComp1 (N := 16) (eRng1 (eV rfl)) (fun its_36 => (eCmp (eV rfl) (eV rfl))) (fun its_36 => (eV rfl))))) rfl (fun s_34 other_38 => sOne (sAss (sSet (eCall (eCons (eV rfl) (eCons (eV rfl) (eCons (eV rfl) (eCons (eV rfl) eNil))))) fun due_39 => (sAss (sSet (eOfL (eComp1 (N := 16) (eSeqI (eTup (eCons eC (eCons eC (eCons eC (eCons eC (eCons eC eNil))))))) (fun its_41 => eC) (fun its_41 => (eCall (eCons (eV rfl) (eCons (eV rfl) (eCons (eV rfl) (eCons (eV rfl) (eCons (eV rfl) eNil))))))))) fun hits_40 => (sAss (sIf (eNot (eCall (eCons (eOfL (eLst (eCons (eCall (eCons (eV rfl) (eCons (eV rfl) (eCons (eV rfl) (eCons (eV rfl) eNil))))) (eCons (eOfL (eComp1 (N := 16) (eSeqI (eTup (eCons eC (eCons eC (eCons eC (eCons eC (eCons eC eNil))))))) (fun its_42 => eC) (fun its_42 => (eCall (eCons (eV rfl) (eCons (eV rfl) (eCons (eV rfl) (eCons (eV rfl) (eCons (eV rfl) eNil))))))))) eNil)))) (eCons (eOfL (eLst (eCons (eV rfl) (eCons (eV rfl) eNil)))) eNil)))) (sAss (sRet (r := fun d_43 => Cn.rt d_43) eC fun _ => rfl)) (sNx' (sAss (sIf (eOr (eCmp (eV rfl) (eUn (eOfL (eMVL (eView (eV rfl)))))) (eAnd (eCmp (eV rfl) eC) (eCmp eC (eV rfl)))) (sAss (sRet (r := fun d_44 => Cn.rt d_44) eC fun _ => rfl)) (sNx' (sKill (sNx' (sNx (cnvNx rfl))))))))))))))) (fun s_35 => (sKill (sNx' (sNx (cnvNx rfl))))) (fun _ _ => ⟨_, _, rfl, rfl⟩)))) (fun s_30 => (sAss (sSetOwn (eLst (eCons (eLam s__law_heard (eCall (eCons (eV rfl) (eCons (eV rfl) (eCons (eV rfl) (eCons eC eNil)))))) eNil)) fun found_45 => (sAss (sApp rfl (eLam s__law_heard (eCall (eCons (eV rfl) (eCons (eV rfl) (eCons eC (eCons eC eNil)))))) fun found_46 => (sAss (sApp rfl (eLam s__law_heard (eCall (eCons (eV rfl) (eCons (eV rfl) (eCons eC (eCons eC eNil)))))) fun found_48 => (sAss (sApp rfl (eLam s__law_heard (eCall (eCons (eV rfl) (eCons (eV rfl) (eCons eC (eCons eC (eCons eC eNil))))))) fun found_50 => (sFrz rfl rfl (sAss (sIf (eNot (eCall (eCons (eV rfl) (eCons (eOfL (eLst (eCons (eTup (eCons eC (eCons (eV rfl) eNil))) (eCons (eTup (eCons eC (eCons eC eNil))) (eCons (eTup (eCons eC (eCons eC eNil))) (eCons (eTup (eCons eC (eCons eC eNil))) eNil)))))) eNil)))) (sAss (sRet (r := fun d_52 => Cn.rt d_52) eC fun _ => rfl)) (sNx' (sAss (sSet (eTup (eCons (eOp (eV rfl) eC) (eCons (eTup (eCons (eTup (eCons eC (eCons eC (eCons eC (eCons eC eNil))))) eNil)) eNil))) fun barred_53 => (sAss (sSetOwn (eLst (eCons (eLam s__law_heard (eCall (eCons (eV rfl) (eCons (eV rfl) (eCons (eV rfl) (eCons eC eNil)))))) eNil)) fun found_54 => (sAss (sApp rfl (eLam s__law_heard (eCall (eCons (eV rfl) (eCons (eV rfl) (eCons eC (eCons eC eNil)))))) fun found_55 => (sFrz rfl rfl (sAss (sIf (eNot (eCall (eCons (eV rfl) (eCons (eOp (eOfL (eLst (eCons (eTup (eCons eC (eCons eC eNil))) eNil))) eC) eNil)))) (sAss (sRet (r := fun d_57 => Cn.rt d_57) eC fun _ => rfl)) (sNx' (sKill (sNx' (sNx (cnvNx rfl))))))))))))))))))))))))))) (fun _ _ => ⟨_, _, rfl, rfl⟩))))))))))))) (fun s_5 => (sAss (sRetP eC fun _ => .inl rfl))) (fun _ _ => ⟨_, _, rfl, .inl rfl⟩))))))
end L2.DL.k48

namespace L2.DL.k48
open PySem PySem.Spec PyProof.Rows
open L2.DL.Cm
def top (i : Nat) : Stmt := PySem.Challenge.pw_namesfit_k48_names_that_part_as_one_zoom.main.body.getD i (.Pass ⟨0, 0, 0, 0⟩)
structure Nb (K : PySem.W.Frag) (mg : Str → Option Value) : Prop where
  len : mg "len" = none
  abs : mg "abs" = none
  int : mg "int" = none
  max : mg "max" = none
  min : mg "min" = none
  tuple : mg "tuple" = none
  list : mg "list" = none
  sorted : mg "sorted" = none
  isinstance : mg "isinstance" = none
  range : mg "range" = none
  zip : mg "zip" = none
  str : mg "str" = none
  bool : mg "bool" = none
  g_MOST_ZOOM : GlobD K mg ("MOST_ZOOM" : Str) (.int 20000)
  c_NoPoint : CatchX K mg ("NoPoint" : Str) [(("NamesError" : Str), false), (("NoPoint" : Str), true), (("Refused" : Str), false)]
  c_Refused : CatchX K mg ("Refused" : Str) [(("NamesError" : Str), false), (("NoPoint" : Str), false), (("Refused" : Str), true)]
  f_name : FldX K ("name" : Str) [("NoPoint" : Str)]
  f_why : FldX K ("why" : Str) [("Refused" : Str)]
theorem sc__law_bag : FnScope [("script" : Str), ("cell" : Str)] [("script" : Str)] (defScope (top 23)) := ⟨rfl, rfl, rfl, by decide +kernel, rfl, by decide +kernel, by decide +kernel⟩
theorem h__law_bag {P : Program} {w : World} {K : PySem.W.Frag} {mg : Str → Option Value} {base : Heap} {fa : Addr} {fd : FuncData} (nb : Nb K mg) (F : Fun K ("_law_bag" : Str) ("_law_bag" : Str) (top 23) fa fd) :
    FnOk P w K mg base (L2N.CX P w) 1 fa fd [("script" : Str)] (spL K 1 q__law_bag) := FnOk.imp (
  ok_fnL (k := 0) (N := [("script" : Str), ("cell" : Str)]) F sc__law_bag rfl rfl fun cdv A outer s H E hr tk hp => by
    have hu : (A.deeper (envOfC ("_law_bag" : Str) (defScope (top 23)) s.heap.objs.size fa cdv)).units + 64 < cLine := by have := hr.un; omega
    exact (dl_lst (da_cons de_int (da_cons de_int (da_cons de_int (da_cons (de_ofL (dl_lc (own := [(("cell" : Str), 1)]) rfl sc__law_bag.nd (di_seq (de_slice (de_var 0) do_none (do_some de_int))) (blkOk_by (by kernel_rfl)) (fun _ _ _ _ _ => (dg_name 1 sc__law_bag.nd (by decide))) (fun _ _ _ _ _ => dp_nil) (fun _ _ _ _ _ => (de_callBd cd_abs bt_abs nb.abs (da_cons (de_var 1) da_nil))))) da_nil)))))) (spL_ref s__law_bag)
theorem sc__law_take : FnScope [("bag" : Str), ("many" : Str), ("cell" : Str), ("stirred" : Str), ("value" : Str), ("begin" : Str), ("second" : Str)] [("bag" : Str), ("many" : Str)] (defScope (top 24)) := ⟨rfl, rfl, rfl, by decide +kernel, rfl, by decide +kernel, by decide +kernel⟩
theorem h__law_take {P : Program} {w : World} {K : PySem.W.Frag} {mg : Str → Option Value} {base : Heap} {fa : Addr} {fd : FuncData} (nb : Nb K mg) (F : Fun K ("_law_take" : Str) ("_law_take" : Str) (top 24) fa fd) :
    FnOk P w K mg base (L2N.CX P w) 1 fa fd [("bag" : Str), ("many" : Str)] (spB K 2 q__law_take) := FnOk.imp (
  ok_fnB (k := 0) (N := [("bag" : Str), ("many" : Str), ("cell" : Str), ("stirred" : Str), ("value" : Str), ("begin" : Str), ("second" : Str)]) F sc__law_take rfl fun cdv A outer s H E hr tk hp => by
    have hu : (A.deeper (envOfC ("_law_take" : Str) (defScope (top 24)) s.heap.objs.size fa cdv)).units + 64 < cLine := by have := hr.un; omega
    exact (dss_cons (ds_if (dt_cmp (ob_eq hu) (de_ixOwn 0 de_int) de_int) (dss_cons (ds_set 2 sc__law_take.nd (de_ix hu (de_op od_add (de_slice (de_ixOwn 0 de_int) (do_some (de_ixOwn 0 de_int)) do_none) (de_ofL (dl_lst (da_cons de_int da_nil)))) de_int)) (dss_cons (ds_augS 0 oi_add de_int de_int) (dss_cons (ds_if (dt_cmp (ob_ge hu) (de_var 2) (de_op od_pow de_int de_int)) (dss_cons (ds_store 0 (de_var 2) de_int) dss_nil) dss_nil) (dss_cons (ds_set 3 sc__law_take.nd (de_op od_add (de_op od_add (de_op od_mul (de_ixOwn 0 de_int) de_int) (de_op od_mod (de_callTd cd_int bt_int nb.int (da_cons (de_var 2) da_nil)) de_int)) (de_op od_mul de_int (de_ixOwn 0 de_int)))) (dss_cons (ds_store 0 (de_op od_mod (de_callTd cd_int bt_int nb.int (da_cons (de_var 3) da_nil)) de_int) de_int) (dss_kill [2, 3] dss_nil)))))) dss_nil) (dss_cons (ds_if (dt_cmp (ob_gt hu) (de_ixOwn 0 de_int) de_int) (dss_cons (ds_set 4 sc__law_take.nd (de_op od_mod (de_callTd cd_int bt_int nb.int (da_cons (de_ixOwn 0 de_int) da_nil)) (de_var 1))) (dss_cons (ds_store 0 (de_op od_fdiv (de_callTd cd_int bt_int nb.int (da_cons (de_ixOwn 0 de_int) da_nil)) (de_var 1)) de_int) (dss_cons (ds_ret (de_var 4)) dss_nil))) dss_nil) (dss_cons (ds_set 5 sc__law_take.nd (de_op od_mod (de_callTd cd_int bt_int nb.int (da_cons (de_op od_mul (de_op od_add (de_ixOwn 0 de_int) de_int) de_int) da_nil)) de_int)) (dss_cons (ds_set 6 sc__law_take.nd (de_op od_mod (de_callTd cd_int bt_int nb.int (da_cons (de_op od_mul (de_op od_mod (de_callTd cd_int bt_int nb.int (da_cons (de_op od_mul (de_var 5) (de_var 5)) da_nil)) de_int) de_int) da_nil)) de_int)) (dss_cons (ds_ret (de_op od_mod (de_callTd cd_int bt_int nb.int (da_cons (de_op od_fdiv (de_var 6) de_int) da_nil)) (de_var 1))) dss_nil)))))) (spB_ref s__law_take)
theorem sc__law_mixed : FnScope [("bag" : Str), ("things" : Str), ("left" : Str), ("found" : Str)] [("bag" : Str), ("things" : Str)] (defScope (top 26)) := ⟨rfl, rfl, rfl, by decide +kernel, rfl, by decide +kernel, by decide +kernel⟩
theorem h__law_mixed {P : Program} {w : World} {K : PySem.W.Frag} {mg : Str → Option Value} {base : Heap} {fa : Addr} {fd : FuncData} (nb : Nb K mg) (F : Fun K ("_law_mixed" : Str) ("_law_mixed" : Str) (top 26) fa fd) (H__law_take : Has P w K mg base 1 ("_law_take" : Str) (spB K 2 q__law_take)) :
    FnOk P w K mg base (L2N.CX P w) 2 fa fd [("bag" : Str), ("things" : Str)] (spB K 2 q__law_mixed) := FnOk.imp (
  ok_fnB (k := 1) (N := [("bag" : Str), ("things" : Str), ("left" : Str), ("found" : Str)]) F sc__law_mixed rfl fun cdv A outer s H E hr tk hp => by
    have hu : (A.deeper (envOfC ("_law_mixed" : Str) (defScope (top 26)) s.heap.objs.size fa cdv)).units + 64 < cLine := by have := hr.un; omega
    exact (dss_cons (ds_par 2 3 (k1 := (.n (mNL (mVL lstS (mView (mVar 1)))))) (k2 := (.n (mNL (mLst mNil)))) rfl sc__law_mixed.nd (dn_ofL (dl_callTv cd_list bt_list nb.list (dv_of (de_var 1)))) (dn_ofL (dl_lst da_nil))) (dss_cons (ds_while hp (dt_cmpO 2 (ob_ne hu) (de_ofL (dl_lst da_nil))) (dss_cons (ds_append 3 (de_popAt 2 (de_callB (H__law_take.mono (by decide)) hr tk 0 (da_cons (de_callBv cd_len bt_len nb.len (dv_own 2)) da_nil)))) dss_nil)) (dss_frz 3 (dss_cons (ds_ret (de_var 3)) dss_nil))))) (spB_ref s__law_mixed)
theorem sc__law_names : FnScope [("bag" : Str), ("many" : Str)] [("bag" : Str), ("many" : Str)] (defScope (top 29)) := ⟨rfl, rfl, rfl, by decide +kernel, rfl, by decide +kernel, by decide +kernel⟩
theorem h__law_names {P : Program} {w : World} {K : PySem.W.Frag} {mg : Str → Option Value} {base : Heap} {fa : Addr} {fd : FuncData} (nb : Nb K mg) (F : Fun K ("_law_names" : Str) ("_law_names" : Str) (top 29) fa fd) (H__law_mixed : Has P w K mg base 2 ("_law_mixed" : Str) (spB K 2 q__law_mixed)) :
    FnOk P w K mg base (L2N.CX P w) 3 fa fd [("bag" : Str), ("many" : Str)] (spB K 2 q__law_names) := FnOk.imp (
  ok_fnB (k := 2) (N := [("bag" : Str), ("many" : Str)]) F sc__law_names rfl fun cdv A outer s H E hr tk hp => by
    have hu : (A.deeper (envOfC ("_law_names" : Str) (defScope (top 29)) s.heap.objs.size fa cdv)).units + 64 < cLine := by have := hr.un; omega
    exact (dss_cons (ds_ret (de_slice (de_callB (H__law_mixed.mono (by decide)) hr tk 0 (da_cons (de_ofL (dl_lst (da_cons de_str (da_cons de_str (da_cons de_str (da_cons de_str (da_cons de_str (da_cons de_str (da_cons de_str (da_cons de_str (da_cons de_str (da_cons de_str da_nil)))))))))))) da_nil)) do_none (do_some (de_var 1)))) dss_nil)) (spB_ref s__law_names)
theorem sc__law_stands : FnScope [("bag" : Str), ("most" : Str)] [("bag" : Str), ("most" : Str)] (defScope (top 30)) := ⟨rfl, rfl, rfl, by decide +kernel, rfl, by decide +kernel, by decide +kernel⟩
theorem h__law_stands {P : Program} {w : World} {K : PySem.W.Frag} {mg : Str → Option Value} {base : Heap} {fa : Addr} {fd : FuncData} (nb : Nb K mg) (F : Fun K ("_law_stands" : Str) ("_law_stands" : Str) (top 30) fa fd) (H__law_take : Has P w K mg base 1 ("_law_take" : Str) (spB K 2 q__law_take)) (H__law_mixed : Has P w K mg base 2 ("_law_mixed" : Str) (spB K 2 q__law_mixed)) :
    FnOk P w K mg base (L2N.CX P w) 3 fa fd [("bag" : Str), ("most" : Str)] (spB K 2 q__law_stands) := FnOk.imp (
  ok_fnB (k := 2) (N := [("bag" : Str), ("most" : Str)]) F sc__law_stands rfl fun cdv A outer s H E hr tk hp => by
    have hu : (A.deeper (envOfC ("_law_stands" : Str) (defScope (top 30)) s.heap.objs.size fa cdv)).units + 64 < cLine := by have := hr.un; omega
    exact (dss_cons (ds_ret (de_callTv cd_tuple bt_tuple nb.tuple (dv_of (de_ofL (dl_callBv (cd_sorted hu) bt_sorted nb.sorted (dv_of (de_slice (de_callB (H__law_mixed.mono (by decide)) hr tk 0 (da_cons (de_ofL (dl_lst (da_cons de_int (da_cons de_int (da_cons de_int (da_cons de_int da_nil)))))) da_nil)) do_none (do_some (de_op od_add de_int (de_callB (H__law_take.mono (by decide)) hr tk 0 (da_cons (de_var 1) da_nil))))))))))) dss_nil)) (spB_ref s__law_stands)
theorem sc__law_chart : FnScope [("bag" : Str), ("points" : Str), ("most" : Str), ("bars" : Str), ("room" : Str), ("found" : Str), ("boxes" : Str), ("name" : Str), ("x" : Str), ("y" : Str), ("width" : Str), ("bar" : Str), ("left" : Str), ("low" : Str), ("right" : Str)] [("bag" : Str), ("points" : Str), ("most" : Str), ("bars" : Str), ("room" : Str)] (defScope (top 31)) := ⟨rfl, rfl, rfl, by decide +kernel, rfl, by decide +kernel, by decide +kernel⟩
theorem h__law_chart {P : Program} {w : World} {K : PySem.W.Frag} {mg : Str → Option Value} {base : Heap} {fa : Addr} {fd : FuncData} (nb : Nb K mg) (F : Fun K ("_law_chart" : Str) ("_law_chart" : Str) (top 31) fa fd) (H__law_take : Has P w K mg base 1 ("_law_take" : Str) (spB K 2 q__law_take)) (H__law_names : Has P w K mg base 3 ("_law_names" : Str) (spB K 2 q__law_names)) (H__law_stands : Has P w K mg base 3 ("_law_stands" : Str) (spB K 2 q__law_stands)) :
    FnOk P w K mg base (L2N.CX P w) 4 fa fd [("bag" : Str), ("points" : Str), ("most" : Str), ("bars" : Str), ("room" : Str)] (spB K 5 q__law_chart) := FnOk.imp (
  ok_fnB (k := 3) (N := [("bag" : Str), ("points" : Str), ("most" : Str), ("bars" : Str), ("room" : Str), ("found" : Str), ("boxes" : Str), ("name" : Str), ("x" : Str), ("y" : Str), ("width" : Str), ("bar" : Str), ("left" : Str), ("low" : Str), ("right" : Str)]) F sc__law_chart rfl fun cdv A outer s H E hr tk hp => by
    have hu : (A.deeper (envOfC ("_law_chart" : Str) (defScope (top 31)) s.heap.objs.size fa cdv)).units + 64 < cLine := by have := hr.un; omega
    exact (dss_cons (ds_par 5 6 (k1 := (.n (mNL (mLst mNil)))) (k2 := (.n (mNL (mLst mNil)))) rfl sc__law_chart.nd (dn_ofL (dl_lst da_nil)) (dn_ofL (dl_lst da_nil))) (dss_cons (ds_for (ix := [7]) hp rfl (di_seq (de_callB (H__law_names.mono (by decide)) hr tk 0 (da_cons (de_op od_add de_int (de_callB (H__law_take.mono (by decide)) hr tk 0 (da_cons (de_var 1) da_nil))) da_nil))) (dg_name 7 sc__law_chart.nd (by decide)) (dss_cons (ds_par 8 9 (k1 := (.d (mCallB 2 q__law_take 0 (mCons (mVar 4) mNil)))) (k2 := (.d (mCallB 2 q__law_take 0 (mCons (mVar 4) mNil)))) rfl sc__law_chart.nd (de_callB (H__law_take.mono (by decide)) hr tk 0 (da_cons (de_var 4) da_nil)) (de_callB (H__law_take.mono (by decide)) hr tk 0 (da_cons (de_var 4) da_nil))) (dss_cons (ds_set 10 sc__law_chart.nd (de_op od_add de_int (de_callB (H__law_take.mono (by decide)) hr tk 0 (da_cons de_int da_nil)))) (dss_cons (ds_append 5 (de_tup (da_cons (de_var 7) (da_cons (de_var 8) (da_cons (de_var 9) (da_cons (de_var 10) (da_cons (de_op od_add de_int (de_callB (H__law_take.mono (by decide)) hr tk 0 (da_cons de_int da_nil))) (da_cons (de_callB (H__law_stands.mono (by decide)) hr tk 0 (da_cons (de_var 2) da_nil)) da_nil)))))))) (dss_kill [7, 8, 9, 10] dss_nil))))) (dss_cons (ds_for (ix := [11]) hp rfl (di_range1 nb.range (de_callB (H__law_take.mono (by decide)) hr tk 0 (da_cons (de_op od_add (de_var 3) de_int) da_nil))) (dg_name 11 sc__law_chart.nd (by decide)) (dss_cons (ds_par 12 13 (k1 := (.d (mOp subD (mCallB 2 q__law_take 0 (mCons (mVar 4) mNil)) (mC (.int 2))))) (k2 := (.d (mOp subD (mCallB 2 q__law_take 0 (mCons (mVar 4) mNil)) (mC (.int 2))))) rfl sc__law_chart.nd (de_op od_sub (de_callB (H__law_take.mono (by decide)) hr tk 0 (da_cons (de_var 4) da_nil)) de_int) (de_op od_sub (de_callB (H__law_take.mono (by decide)) hr tk 0 (da_cons (de_var 4) da_nil)) de_int)) (dss_cons (ds_set 14 sc__law_chart.nd (de_op od_add (de_op od_add (de_var 12) de_int) (de_callB (H__law_take.mono (by decide)) hr tk 0 (da_cons de_int da_nil)))) (dss_cons (ds_append 6 (de_tup (da_cons (de_var 12) (da_cons (de_var 13) (da_cons (de_var 14) (da_cons (de_op od_add (de_op od_add (de_var 13) de_int) (de_callB (H__law_take.mono (by decide)) hr tk 0 (da_cons de_int da_nil))) da_nil)))))) (dss_kill [11, 12, 13, 14] dss_nil))))) (dss_cons (ds_ret (de_tup (da_cons (de_callTv cd_tuple bt_tuple nb.tuple (dv_own 5)) (da_cons (de_callTv cd_tuple bt_tuple nb.tuple (dv_own 6)) da_nil)))) dss_nil))))) (spB_ref s__law_chart)
theorem sc__law_some : FnScope [("bag" : Str), ("things" : Str)] [("bag" : Str), ("things" : Str)] (defScope (top 25)) := ⟨rfl, rfl, rfl, by decide +kernel, rfl, by decide +kernel, by decide +kernel⟩
theorem h__law_some {P : Program} {w : World} {K : PySem.W.Frag} {mg : Str → Option Value} {base : Heap} {fa : Addr} {fd : FuncData} (nb : Nb K mg) (F : Fun K ("_law_some" : Str) ("_law_some" : Str) (top 25) fa fd) (H__law_take : Has P w K mg base 1 ("_law_take" : Str) (spB K 2 q__law_take)) :
    FnOk P w K mg base (L2N.CX P w) 2 fa fd [("bag" : Str), ("things" : Str)] (spB K 2 q__law_some) := FnOk.imp (
  ok_fnB (k := 1) (N := [("bag" : Str), ("things" : Str)]) F sc__law_some rfl fun cdv A outer s H E hr tk hp => by
    have hu : (A.deeper (envOfC ("_law_some" : Str) (defScope (top 25)) s.heap.objs.size fa cdv)).units + 64 < cLine := by have := hr.un; omega
    exact (dss_cons (ds_ret (de_ix hu (de_var 1) (de_callB (H__law_take.mono (by decide)) hr tk 0 (da_cons (de_callBv cd_len bt_len nb.len (dv_of (de_var 1))) da_nil)))) dss_nil)) (spB_ref s__law_some)
theorem sc__law_alike : FnScope [("found" : Str), ("due" : Str), ("pairs" : Str), ("at" : Str), ("one" : Str), ("other" : Str)] [("found" : Str), ("due" : Str)] (defScope (top 27)) := ⟨rfl, rfl, rfl, by decide +kernel, rfl, by decide +kernel, by decide +kernel⟩
theorem h__law_alike {P : Program} {w : World} {K : PySem.W.Frag} {mg : Str → Option Value} {base : Heap} {fa : Addr} {fd : FuncData} (nb : Nb K mg) (F : Fun K ("_law_alike" : Str) ("_law_alike" : Str) (top 27) fa fd) :
    FnOk P w K mg base (L2N.CX P w) 1 fa fd [("found" : Str), ("due" : Str)] (spP K 2 q__law_alike) := FnOk.imp (
  ok_fnP (k := 0) (N := [("found" : Str), ("due" : Str), ("pairs" : Str), ("at" : Str), ("one" : Str), ("other" : Str)]) F sc__law_alike rfl fun cdv A outer s H E hr tk hp => by
    have hu : (A.deeper (envOfC ("_law_alike" : Str) (defScope (top 27)) s.heap.objs.size fa cdv)).units + 64 < cLine := by have := hr.un; omega
    exact (dss_cons (ds_par 2 3 (k1 := (.n (mNL (mLst (mCons (mTup (mCons (mVar 0) (mCons (mVar 1) mNil))) mNil))))) (k2 := (.d (mC (.int 0)))) rfl sc__law_alike.nd (dn_ofL (dl_lst (da_cons (de_tup (da_cons (de_var 0) (da_cons (de_var 1) da_nil))) da_nil))) de_int) (dss_cons (ds_while hp (dt_cmp (ob_lt hu) (de_var 3) (de_callBv cd_len bt_len nb.len (dv_own 2))) (dss_cons (ds_asg (ix := [4, 5]) (de_ixOwn 2 (de_var 3)) (dg_tup rfl (dgs_cons (dg_name 4 sc__law_alike.nd (by decide)) (dgs_cons (dg_name 5 sc__law_alike.nd (by decide)) dgs_nil)))) (dss_cons (ds_aug 3 sc__law_alike.nd oi_add de_int) (dss_cons (ds_if (PW.pt (dw_or (dt_cmp (ob_ne hu) (de_isi .bool nb.isinstance nb.bool (de_var 4)) (de_isi .bool nb.isinstance nb.bool (de_var 5))) (dw_or1 (dt_cmp (ob_ne hu) (de_isi .str nb.isinstance nb.str (de_var 4)) (de_isi .str nb.isinstance nb.str (de_var 5)))))) (dss_cons (ds_ret de_bl) dss_nil) dss_nil) (dss_cons (ds_if (dt_cmp (ob_ne hu) (de_isiT2 .tuple .list nb.isinstance nb.tuple nb.list (de_var 4)) (de_isiT2 .tuple .list nb.isinstance nb.tuple nb.list (de_var 5))) (dss_cons (ds_ret de_bl) dss_nil) dss_nil) (dss_cons (ds_if (dt_val (de_isiT2 .tuple .list nb.isinstance nb.tuple nb.list (de_var 4))) (dss_cons (ds_if (PW.pt (dw_or (dt_cmp (ob_ne hu) (de_isi .tuple nb.isinstance nb.tuple (de_var 4)) (de_isi .tuple nb.isinstance nb.tuple (de_var 5))) (dw_or1 (dt_cmp (ob_ne hu) (de_callBv cd_len bt_len nb.len (dv_of (de_var 4))) (de_callBv cd_len bt_len nb.len (dv_of (de_var 5))))))) (dss_cons (ds_ret de_bl) dss_nil) dss_nil) (dss_cons (ds_extend 2 (dl_listZip rfl nb.zip nb.list (de_var 4) (de_var 5))) dss_nil)) (dss_cons (ds_if (dt_cmp (ob_ne hu) (de_var 4) (de_var 5)) (dss_cons (ds_ret de_bl) dss_nil) dss_nil) dss_nil)) (dss_kill [4, 5] dss_nil))))))) (dss_cons (ds_ret de_bl) dss_nil)))) (spP_ref s__law_alike)
theorem sc__law_heard : FnScope [("act" : Str), ("error" : Str)] [("act" : Str)] (defScope (top 32)) := ⟨rfl, rfl, rfl, by decide +kernel, rfl, by decide +kernel, by decide +kernel⟩
theorem g__law_heard {X : Cx} {g : Addr} {cdg : Value} {q0 : Str} (nb : Nb X.K X.mg) (hu0 : X.A.units + 200 < cLine) : LamX.GivesTo X [("act" : Str), ("error" : Str)] ("_law_heard" : Str) (defScope (top 32)) g cdg (defBody (top 32)) ("act" : Str) q0 (TTq X.K (qHelp k__law_heard l__law_heard 2)) := by
  obtain ⟨CH_NoPoint, m_NoPoint, k_NoPoint⟩ := nb.c_NoPoint.ex
  obtain ⟨CH_Refused, m_Refused, k_Refused⟩ := nb.c_Refused.ex
  refine gives_told sc__law_heard.nd rfl (fun _ => rfl) fun s H => ?_
  have hu : (X.A.deeper (envOfC ("_law_heard" : Str) (defScope (top 32)) s.heap.objs.size g cdg)).units + 64 < cLine := by show X.A.units + 3 + 64 < cLine; omega
  exact ⟨_, (.as ⟨rfl, rfl, .inl m_NoPoint⟩ k_NoPoint rfl rfl (fun a oe cls d pn hz hf => (dss_cons (ds_ret (de_tup (da_cons de_str (da_cons (de_fld 1 nb.f_name hz hf) da_nil)))) dss_nil)) (.as ⟨rfl, rfl, .inl m_Refused⟩ k_Refused rfl rfl (fun a oe cls d pn hz hf => (dss_cons (ds_ret (de_tup (da_cons de_str (da_cons (de_fld 1 nb.f_why hz hf) da_nil)))) dss_nil)) .nil))⟩
theorem sc__law_meet : FnScope [("one" : Str), ("other" : Str), ("wide" : Str)] [("one" : Str), ("other" : Str)] (defScope (top 28)) := ⟨rfl, rfl, rfl, by decide +kernel, rfl, by decide +kernel, by decide +kernel⟩
theorem h__law_meet {P : Program} {w : World} {K : PySem.W.Frag} {mg : Str → Option Value} {base : Heap} {fa : Addr} {fd : FuncData} (nb : Nb K mg) (F : Fun K ("_law_meet" : Str) ("_law_meet" : Str) (top 28) fa fd) :
    FnOk P w K mg base (L2N.CX P w) 1 fa fd [("one" : Str), ("other" : Str)] (spP K 2 q__law_meet) := FnOk.imp (
  ok_fnP (k := 0) (N := [("one" : Str), ("other" : Str), ("wide" : Str)]) F sc__law_meet rfl fun cdv A outer s H E hr tk hp => by
    have hu : (A.deeper (envOfC ("_law_meet" : Str) (defScope (top 28)) s.heap.objs.size fa cdv)).units + 64 < cLine := by have := hr.un; omega
    exact (dss_cons (ds_set 2 sc__law_meet.nd (de_op od_sub (de_callBd (cd_min2 rfl) bt_min nb.min (da_cons (de_ix hu (de_var 0) de_int) (da_cons (de_ix hu (de_var 1) de_int) da_nil))) (de_callBd (cd_max2 rfl) bt_max nb.max (da_cons (de_ix hu (de_var 0) de_int) (da_cons (de_ix hu (de_var 1) de_int) da_nil))))) (dss_cons (ds_ret (de_and (de_cmp (ob_gt hu) (de_var 2) de_int) (de_one (de_cmp (ob_gt hu) (de_op od_sub (de_callBd (cd_min2 rfl) bt_min nb.min (da_cons (de_ix hu (de_var 0) de_int) (da_cons (de_ix hu (de_var 1) de_int) da_nil))) (de_callBd (cd_max2 rfl) bt_max nb.max (da_cons (de_ix hu (de_var 0) de_int) (da_cons (de_ix hu (de_var 1) de_int) da_nil)))) de_int)))) dss_nil))) (spP_ref s__law_meet)
theorem sc__law_zoomed : FnScope [("chart" : Str), ("layout" : Str), ("point" : Str), ("zoom" : Str), ("name" : Str), ("x" : Str), ("y" : Str), ("width" : Str), ("height" : Str), ("stands" : Str), ("left" : Str), ("low" : Str)] [("chart" : Str), ("layout" : Str), ("point" : Str), ("zoom" : Str)] (defScope (top 33)) := ⟨rfl, rfl, rfl, by decide +kernel, rfl, by decide +kernel, by decide +kernel⟩
theorem h__law_zoomed {P : Program} {w : World} {K : PySem.W.Frag} {mg : Str → Option Value} {base : Heap} {fa : Addr} {fd : FuncData} (nb : Nb K mg) (F : Fun K ("_law_zoomed" : Str) ("_law_zoomed" : Str) (top 33) fa fd) :
    FnOk P w K mg base (L2N.CX P w) 1 fa fd [("chart" : Str), ("layout" : Str), ("point" : Str), ("zoom" : Str)] (spP K 4 q__law_zoomed) := FnOk.imp (
  ok_fnP (k := 0) (N := [("chart" : Str), ("layout" : Str), ("point" : Str), ("zoom" : Str), ("name" : Str), ("x" : Str), ("y" : Str), ("width" : Str), ("height" : Str), ("stands" : Str), ("left" : Str), ("low" : Str)]) F sc__law_zoomed rfl fun cdv A outer s H E hr tk hp => by
    have hu : (A.deeper (envOfC ("_law_zoomed" : Str) (defScope (top 33)) s.heap.objs.size fa cdv)).units + 64 < cLine := by have := hr.un; omega
    exact (dss_cons (ds_asg (ix := [4, 5, 6, 7, 8, 9]) (de_ix hu (de_ix hu (de_var 0) de_int) (de_var 2)) (dg_tup rfl (dgs_cons (dg_name 4 sc__law_zoomed.nd (by decide)) (dgs_cons (dg_name 5 sc__law_zoomed.nd (by decide)) (dgs_cons (dg_name 6 sc__law_zoomed.nd (by decide)) (dgs_cons (dg_name 7 sc__law_zoomed.nd (by decide)) (dgs_cons (dg_name 8 sc__law_zoomed.nd (by decide)) (dgs_cons (dg_name 9 sc__law_zoomed.nd (by decide)) dgs_nil)))))))) (dss_cons (ds_set 10 sc__law_zoomed.nd (de_if (dt_cmp (ob_in hu) (de_ix hu (de_var 1) (de_var 2)) (de_tup (da_cons de_int (da_cons de_int da_nil)))) (de_op od_mul (de_var 5) (de_var 3)) (de_op od_sub (de_op od_mul (de_var 5) (de_var 3)) (de_var 7)))) (dss_cons (ds_set 11 sc__law_zoomed.nd (de_if (dt_cmp (ob_in hu) (de_ix hu (de_var 1) (de_var 2)) (de_tup (da_cons de_int (da_cons de_int da_nil)))) (de_op od_mul (de_var 6) (de_var 3)) (de_op od_sub (de_op od_mul (de_var 6) (de_var 3)) (de_var 8)))) (dss_cons (ds_ret (de_tup (da_cons (de_var 10) (da_cons (de_var 11) (da_cons (de_op od_add (de_var 10) (de_var 7)) (da_cons (de_op od_add (de_var 11) (de_var 8)) da_nil)))))) dss_nil))))) (spP_ref s__law_zoomed)
theorem sc__law_hit : FnScope [("chart" : Str), ("layout" : Str), ("one" : Str), ("other" : Str), ("zoom" : Str)] [("chart" : Str), ("layout" : Str), ("one" : Str), ("other" : Str), ("zoom" : Str)] (defScope (top 34)) := ⟨rfl, rfl, rfl, by decide +kernel, rfl, by decide +kernel, by decide +kernel⟩
theorem h__law_hit {P : Program} {w : World} {K : PySem.W.Frag} {mg : Str → Option Value} {base : Heap} {fa : Addr} {fd : FuncData} (nb : Nb K mg) (F : Fun K ("_law_hit" : Str) ("_law_hit" : Str) (top 34) fa fd) (H__law_meet : Has P w K mg base 1 ("_law_meet" : Str) (spP K 2 q__law_meet)) (H__law_zoomed : Has P w K mg base 1 ("_law_zoomed" : Str) (spP K 4 q__law_zoomed)) :
    FnOk P w K mg base (L2N.CX P w) 2 fa fd [("chart" : Str), ("layout" : Str), ("one" : Str), ("other" : Str), ("zoom" : Str)] (spP K 5 q__law_hit) := FnOk.imp (
  ok_fnP (k := 1) (N := [("chart" : Str), ("layout" : Str), ("one" : Str), ("other" : Str), ("zoom" : Str)]) F sc__law_hit rfl fun cdv A outer s H E hr tk hp => by
    have hu : (A.deeper (envOfC ("_law_hit" : Str) (defScope (top 34)) s.heap.objs.size fa cdv)).units + 64 < cLine := by have := hr.un; omega
    exact (dss_cons (ds_ret (de_call (H__law_meet.mono (by decide)) hr tk (da_cons (de_call (H__law_zoomed.mono (by decide)) hr tk (da_cons (de_var 0) (da_cons (de_var 1) (da_cons (de_var 2) (da_cons (de_var 4) da_nil))))) (da_cons (de_call (H__law_zoomed.mono (by decide)) hr tk (da_cons (de_var 0) (da_cons (de_var 1) (da_cons (de_var 3) (da_cons (de_var 4) da_nil))))) da_nil)))) dss_nil)) (spP_ref s__law_hit)
theorem sc__law_parted : FnScope [("chart" : Str), ("layout" : Str), ("one" : Str), ("other" : Str), ("some" : Str), ("zoom" : Str)] [("chart" : Str), ("layout" : Str), ("one" : Str), ("other" : Str)] (defScope (top 35)) := ⟨rfl, rfl, rfl, by decide +kernel, rfl, by decide +kernel, by decide +kernel⟩
theorem h__law_parted {P : Program} {w : World} {K : PySem.W.Frag} {mg : Str → Option Value} {base : Heap} {fa : Addr} {fd : FuncData} (nb : Nb K mg) (F : Fun K ("_law_parted" : Str) ("_law_parted" : Str) (top 35) fa fd) (H__law_hit : Has P w K mg base 2 ("_law_hit" : Str) (spP K 5 q__law_hit)) :
    FnOk P w K mg base (L2N.CX P w) 3 fa fd [("chart" : Str), ("layout" : Str), ("one" : Str), ("other" : Str)] (spP K 4 q__law_parted) := FnOk.imp (
  ok_fnP (k := 2) (N := [("chart" : Str), ("layout" : Str), ("one" : Str), ("other" : Str), ("some" : Str), ("zoom" : Str)]) F sc__law_parted rfl fun cdv A outer s H E hr tk hp => by
    have hu : (A.deeper (envOfC ("_law_parted" : Str) (defScope (top 35)) s.heap.objs.size fa cdv)).units + 64 < cLine := by have := hr.un; omega
    exact (dss_cons (ds_setLc (own := [(("zoom" : Str), 5)]) 4 rfl sc__law_parted.nd rfl rfl rfl (di_range2 nb.range de_int de_int) (blkOk_by (by kernel_rfl)) (fun _ _ _ _ _ => (dg_name 5 sc__law_parted.nd (by decide))) (fun _ _ _ _ _ => (dp_one (dt_not (dt_val (de_call (H__law_hit.mono (by decide)) hr takes0N (da_cons (de_var 0) (da_cons (de_var 1) (da_cons (de_var 2) (da_cons (de_var 3) (da_cons (de_var 5) da_nil)))))))))) (fun _ _ _ _ _ => (de_var 5))) (dss_cons (ds_ret (de_if (dt_cmp (ob_ne hu) (de_var 4) (de_ofL (dl_lst da_nil))) (de_ix hu (de_var 4) de_int) de_non)) dss_nil))) (spP_ref s__law_parted)
theorem sc_need_bare : FnScope [("chart" : Str)] [("chart" : Str)] (defScope (top 13)) := ⟨rfl, rfl, rfl, by decide +kernel, rfl, by decide +kernel, by decide +kernel⟩
theorem h_need_bare {P : Program} {w : World} {K : PySem.W.Frag} {mg : Str → Option Value} {base : Heap} {fa : Addr} {fd : FuncData} (nb : Nb K mg) (F : Fun K ("need_bare" : Str) ("need_bare" : Str) (top 13) fa fd) (X_Refused : HasX P w K mg base 1 ("Refused" : Str) [("why" : Str)]) :
    FnOk P w K mg base (L2N.CX P w) 3 fa fd [("chart" : Str)] (spP K 1 q_need_bare) := FnOk.imp (
  ok_fnP (k := 2) (N := [("chart" : Str)]) F sc_need_bare rfl fun cdv A outer s H E hr tk hp => by
    have hu : (A.deeper (envOfC ("need_bare" : Str) (defScope (top 13)) s.heap.objs.size fa cdv)).units + 64 < cLine := by have := hr.un; omega
    exact (dss_cons (ds_if (dt_cmp (ob_ne hu) (de_ix hu (de_var 0) de_int) (de_tup da_nil)) (dss_cons (ds_raise (names := [("why" : Str)]) X_Refused (hr.mono (by decide)) rfl tk (da_cons de_str da_nil)) dss_nil) dss_nil) dss_nil)) (spP_ref s_need_bare)
theorem sc_is_integer : FnScope [("thing" : Str)] [("thing" : Str)] (defScope (top 9)) := ⟨rfl, rfl, rfl, by decide +kernel, rfl, by decide +kernel, by decide +kernel⟩
theorem h_is_integer {P : Program} {w : World} {K : PySem.W.Frag} {mg : Str → Option Value} {base : Heap} {fa : Addr} {fd : FuncData} (nb : Nb K mg) (F : Fun K ("is_integer" : Str) ("is_integer" : Str) (top 9) fa fd) :
    FnOk P w K mg base (L2N.CX P w) 1 fa fd [("thing" : Str)] (spP K 1 q_is_integer) := FnOk.imp (
  ok_fnP (k := 0) (N := [("thing" : Str)]) F sc_is_integer rfl fun cdv A outer s H E hr tk hp => by
    have hu : (A.deeper (envOfC ("is_integer" : Str) (defScope (top 9)) s.heap.objs.size fa cdv)).units + 64 < cLine := by have := hr.un; omega
    exact (dss_cons (ds_ret (de_and (de_isi .int nb.isinstance nb.int (de_var 0)) (de_one (de_not (de_isi .bool nb.isinstance nb.bool (de_var 0)))))) dss_nil)) (spP_ref s_is_integer)
theorem sc_is_within : FnScope [("thing" : Str), ("least" : Str), ("most" : Str)] [("thing" : Str), ("least" : Str), ("most" : Str)] (defScope (top 10)) := ⟨rfl, rfl, rfl, by decide +kernel, rfl, by decide +kernel, by decide +kernel⟩
theorem h_is_within {P : Program} {w : World} {K : PySem.W.Frag} {mg : Str → Option Value} {base : Heap} {fa : Addr} {fd : FuncData} (nb : Nb K mg) (F : Fun K ("is_within" : Str) ("is_within" : Str) (top 10) fa fd) (H_is_integer : Has P w K mg base 1 ("is_integer" : Str) (spP K 1 q_is_integer)) :
    FnOk P w K mg base (L2N.CX P w) 2 fa fd [("thing" : Str), ("least" : Str), ("most" : Str)] (spP K 3 q_is_within) := FnOk.imp (
  ok_fnP (k := 1) (N := [("thing" : Str), ("least" : Str), ("most" : Str)]) F sc_is_within rfl fun cdv A outer s H E hr tk hp => by
    have hu : (A.deeper (envOfC ("is_within" : Str) (defScope (top 10)) s.heap.objs.size fa cdv)).units + 64 < cLine := by have := hr.un; omega
    exact (dss_cons (ds_ret (de_and (de_call (H_is_integer.mono (by decide)) hr tk (da_cons (de_var 0) da_nil)) (de_one (de_chain (ob_le hu) (ob_le hu) (de_var 1) (de_var 0) (de_var 2))))) dss_nil)) (spP_ref s_is_within)
theorem sc_need_point : FnScope [("chart" : Str), ("point" : Str)] [("chart" : Str), ("point" : Str)] (defScope (top 14)) := ⟨rfl, rfl, rfl, by decide +kernel, rfl, by decide +kernel, by decide +kernel⟩
theorem h_need_point {P : Program} {w : World} {K : PySem.W.Frag} {mg : Str → Option Value} {base : Heap} {fa : Addr} {fd : FuncData} (nb : Nb K mg) (F : Fun K ("need_point" : Str) ("need_point" : Str) (top 14) fa fd) (H_is_within : Has P w K mg base 2 ("is_within" : Str) (spP K 3 q_is_within)) (X_NoPoint : HasX P w K mg base 1 ("NoPoint" : Str) [("name" : Str)]) :
    FnOk P w K mg base (L2N.CX P w) 3 fa fd [("chart" : Str), ("point" : Str)] (spP K 2 q_need_point) := FnOk.imp (
  ok_fnP (k := 2) (N := [("chart" : Str), ("point" : Str)]) F sc_need_point rfl fun cdv A outer s H E hr tk hp => by
    have hu : (A.deeper (envOfC ("need_point" : Str) (defScope (top 14)) s.heap.objs.size fa cdv)).units + 64 < cLine := by have := hr.un; omega
    exact (dss_cons (ds_if (dt_not (dt_val (de_call (H_is_within.mono (by decide)) hr tk (da_cons (de_var 1) (da_cons de_int (da_cons (de_op od_sub (de_callBv cd_len bt_len nb.len (dv_of (de_ix hu (de_var 0) de_int))) de_int) da_nil)))))) (dss_cons (ds_raise (names := [("name" : Str)]) X_NoPoint (hr.mono (by decide)) rfl tk (da_cons (de_var 1) da_nil)) dss_nil) dss_nil) dss_nil)) (spP_ref s_need_point)
theorem sc_box_at : FnScope [("x" : Str), ("y" : Str), ("width" : Str), ("height" : Str), ("stand" : Str), ("left" : Str), ("low" : Str)] [("x" : Str), ("y" : Str), ("width" : Str), ("height" : Str), ("stand" : Str)] (defScope (top 2)) := ⟨rfl, rfl, rfl, by decide +kernel, rfl, by decide +kernel, by decide +kernel⟩
theorem h_box_at {P : Program} {w : World} {K : PySem.W.Frag} {mg : Str → Option Value} {base : Heap} {fa : Addr} {fd : FuncData} (nb : Nb K mg) (F : Fun K ("box_at" : Str) ("box_at" : Str) (top 2) fa fd) :
    FnOk P w K mg base (L2N.CX P w) 1 fa fd [("x" : Str), ("y" : Str), ("width" : Str), ("height" : Str), ("stand" : Str)] (spP K 5 q_box_at) := FnOk.imp (
  ok_fnP (k := 0) (N := [("x" : Str), ("y" : Str), ("width" : Str), ("height" : Str), ("stand" : Str), ("left" : Str), ("low" : Str)]) F sc_box_at rfl fun cdv A outer s H E hr tk hp => by
    have hu : (A.deeper (envOfC ("box_at" : Str) (defScope (top 2)) s.heap.objs.size fa cdv)).units + 64 < cLine := by have := hr.un; omega
    exact (dss_cons (ds_set 5 sc_box_at.nd (de_if (dt_cmp (ob_in hu) (de_var 4) (de_tup (da_cons de_int (da_cons de_int da_nil)))) (de_var 0) (de_op od_sub (de_var 0) (de_var 2)))) (dss_cons (ds_set 6 sc_box_at.nd (de_if (dt_cmp (ob_in hu) (de_var 4) (de_tup (da_cons de_int (da_cons de_int da_nil)))) (de_var 1) (de_op od_sub (de_var 1) (de_var 3)))) (dss_cons (ds_ret (de_tup (da_cons (de_var 5) (da_cons (de_var 6) (da_cons (de_op od_add (de_var 5) (de_var 2)) (da_cons (de_op od_add (de_var 6) (de_var 3)) da_nil)))))) dss_nil)))) (spP_ref s_box_at)
theorem sc_zoomed : FnScope [("chart" : Str), ("layout" : Str), ("point" : Str), ("zoom" : Str), ("name" : Str), ("x" : Str), ("y" : Str), ("width" : Str), ("height" : Str), ("stands" : Str)] [("chart" : Str), ("layout" : Str), ("point" : Str), ("zoom" : Str)] (defScope (top 16)) := ⟨rfl, rfl, rfl, by decide +kernel, rfl, by decide +kernel, by decide +kernel⟩
theorem h_zoomed {P : Program} {w : World} {K : PySem.W.Frag} {mg : Str → Option Value} {base : Heap} {fa : Addr} {fd : FuncData} (nb : Nb K mg) (F : Fun K ("zoomed" : Str) ("zoomed" : Str) (top 16) fa fd) (H_box_at : Has P w K mg base 1 ("box_at" : Str) (spP K 5 q_box_at)) :
    FnOk P w K mg base (L2N.CX P w) 2 fa fd [("chart" : Str), ("layout" : Str), ("point" : Str), ("zoom" : Str)] (spP K 4 q_zoomed) := FnOk.imp (
  ok_fnP (k := 1) (N := [("chart" : Str), ("layout" : Str), ("point" : Str), ("zoom" : Str), ("name" : Str), ("x" : Str), ("y" : Str), ("width" : Str), ("height" : Str), ("stands" : Str)]) F sc_zoomed rfl fun cdv A outer s H E hr tk hp => by
    have hu : (A.deeper (envOfC ("zoomed" : Str) (defScope (top 16)) s.heap.objs.size fa cdv)).units + 64 < cLine := by have := hr.un; omega
    exact (dss_cons (ds_asg (ix := [4, 5, 6, 7, 8, 9]) (de_ix hu (de_ix hu (de_var 0) de_int) (de_var 2)) (dg_tup rfl (dgs_cons (dg_name 4 sc_zoomed.nd (by decide)) (dgs_cons (dg_name 5 sc_zoomed.nd (by decide)) (dgs_cons (dg_name 6 sc_zoomed.nd (by decide)) (dgs_cons (dg_name 7 sc_zoomed.nd (by decide)) (dgs_cons (dg_name 8 sc_zoomed.nd (by decide)) (dgs_cons (dg_name 9 sc_zoomed.nd (by decide)) dgs_nil)))))))) (dss_cons (ds_ret (de_call (H_box_at.mono (by decide)) hr tk (da_cons (de_op od_mul (de_var 5) (de_var 3)) (da_cons (de_op od_mul (de_var 6) (de_var 3)) (da_cons (de_var 7) (da_cons (de_var 8) (da_cons (de_ix hu (de_var 1) (de_var 2)) da_nil))))))) dss_nil))) (spP_ref s_zoomed)
theorem sc_box_zoomed : FnScope [("chart" : Str), ("layout" : Str), ("point" : Str), ("zoom" : Str)] [("chart" : Str), ("layout" : Str), ("point" : Str), ("zoom" : Str)] (defScope (top 17)) := ⟨rfl, rfl, rfl, by decide +kernel, rfl, by decide +kernel, by decide +kernel⟩
theorem h_box_zoomed {P : Program} {w : World} {K : PySem.W.Frag} {mg : Str → Option Value} {base : Heap} {fa : Addr} {fd : FuncData} (nb : Nb K mg) (F : Fun K ("box_zoomed" : Str) ("box_zoomed" : Str) (top 17) fa fd) (H_need_bare : Has P w K mg base 3 ("need_bare" : Str) (spP K 1 q_need_bare)) (H_need_point : Has P w K mg base 3 ("need_point" : Str) (spP K 2 q_need_point)) (H_zoomed : Has P w K mg base 2 ("zoomed" : Str) (spP K 4 q_zoomed)) :
    FnOk P w K mg base (L2N.CX P w) 4 fa fd [("chart" : Str), ("layout" : Str), ("point" : Str), ("zoom" : Str)] (spP K 4 q_box_zoomed) := FnOk.imp (
  ok_fnP (k := 3) (N := [("chart" : Str), ("layout" : Str), ("point" : Str), ("zoom" : Str)]) F sc_box_zoomed rfl fun cdv A outer s H E hr tk hp => by
    have hu : (A.deeper (envOfC ("box_zoomed" : Str) (defScope (top 17)) s.heap.objs.size fa cdv)).units + 64 < cLine := by have := hr.un; omega
    exact (dss_cons (ds_expr (de_call (H_need_bare.mono (by decide)) hr tk (da_cons (de_var 0) da_nil))) (dss_cons (ds_expr (de_call (H_need_point.mono (by decide)) hr tk (da_cons (de_var 0) (da_cons (de_var 2) da_nil)))) (dss_cons (ds_ret (de_call (H_zoomed.mono (by decide)) hr tk (da_cons (de_var 0) (da_cons (de_var 1) (da_cons (de_var 2) (da_cons (de_var 3) da_nil)))))) dss_nil)))) (spP_ref s_box_zoomed)
theorem sc_need_two : FnScope [("chart" : Str), ("one" : Str), ("other" : Str)] [("chart" : Str), ("one" : Str), ("other" : Str)] (defScope (top 15)) := ⟨rfl, rfl, rfl, by decide +kernel, rfl, by decide +kernel, by decide +kernel⟩
theorem h_need_two {P : Program} {w : World} {K : PySem.W.Frag} {mg : Str → Option Value} {base : Heap} {fa : Addr} {fd : FuncData} (nb : Nb K mg) (F : Fun K ("need_two" : Str) ("need_two" : Str) (top 15) fa fd) (H_need_bare : Has P w K mg base 3 ("need_bare" : Str) (spP K 1 q_need_bare)) (H_need_point : Has P w K mg base 3 ("need_point" : Str) (spP K 2 q_need_point)) (X_Refused : HasX P w K mg base 1 ("Refused" : Str) [("why" : Str)]) :
    FnOk P w K mg base (L2N.CX P w) 4 fa fd [("chart" : Str), ("one" : Str), ("other" : Str)] (spP K 3 q_need_two) := FnOk.imp (
  ok_fnP (k := 3) (N := [("chart" : Str), ("one" : Str), ("other" : Str)]) F sc_need_two rfl fun cdv A outer s H E hr tk hp => by
    have hu : (A.deeper (envOfC ("need_two" : Str) (defScope (top 15)) s.heap.objs.size fa cdv)).units + 64 < cLine := by have := hr.un; omega
    exact (dss_cons (ds_expr (de_call (H_need_bare.mono (by decide)) hr tk (da_cons (de_var 0) da_nil))) (dss_cons (ds_expr (de_call (H_need_point.mono (by decide)) hr tk (da_cons (de_var 0) (da_cons (de_var 1) da_nil)))) (dss_cons (ds_expr (de_call (H_need_point.mono (by decide)) hr tk (da_cons (de_var 0) (da_cons (de_var 2) da_nil)))) (dss_cons (ds_if (dt_cmp (ob_eq hu) (de_var 1) (de_var 2)) (dss_cons (ds_raise (names := [("why" : Str)]) X_Refused (hr.mono (by decide)) rfl tk (da_cons de_str da_nil)) dss_nil) dss_nil) dss_nil))))) (spP_ref s_need_two)
theorem sc_do_clash : FnScope [("one" : Str), ("other" : Str)] [("one" : Str), ("other" : Str)] (defScope (top 3)) := ⟨rfl, rfl, rfl, by decide +kernel, rfl, by decide +kernel, by decide +kernel⟩
theorem h_do_clash {P : Program} {w : World} {K : PySem.W.Frag} {mg : Str → Option Value} {base : Heap} {fa : Addr} {fd : FuncData} (nb : Nb K mg) (F : Fun K ("do_clash" : Str) ("do_clash" : Str) (top 3) fa fd) :
    FnOk P w K mg base (L2N.CX P w) 1 fa fd [("one" : Str), ("other" : Str)] (spP K 2 q_do_clash) := FnOk.imp (
  ok_fnP (k := 0) (N := [("one" : Str), ("other" : Str)]) F sc_do_clash rfl fun cdv A outer s H E hr tk hp => by
    have hu : (A.deeper (envOfC ("do_clash" : Str) (defScope (top 3)) s.heap.objs.size fa cdv)).units + 64 < cLine := by have := hr.un; omega
    exact (dss_cons (ds_ret (de_and (de_cmp (ob_lt hu) (de_ix hu (de_var 0) de_int) (de_ix hu (de_var 1) de_int)) (de_and (de_cmp (ob_lt hu) (de_ix hu (de_var 1) de_int) (de_ix hu (de_var 0) de_int)) (de_and (de_cmp (ob_lt hu) (de_ix hu (de_var 0) de_int) (de_ix hu (de_var 1) de_int)) (de_one (de_cmp (ob_lt hu) (de_ix hu (de_var 1) de_int) (de_ix hu (de_var 0) de_int))))))) dss_nil)) (spP_ref s_do_clash)
theorem sc_are_in_the_way : FnScope [("chart" : Str), ("layout" : Str), ("one" : Str), ("other" : Str), ("zoom" : Str)] [("chart" : Str), ("layout" : Str), ("one" : Str), ("other" : Str), ("zoom" : Str)] (defScope (top 18)) := ⟨rfl, rfl, rfl, by decide +kernel, rfl, by decide +kernel, by decide +kernel⟩
theorem h_are_in_the_way {P : Program} {w : World} {K : PySem.W.Frag} {mg : Str → Option Value} {base : Heap} {fa : Addr} {fd : FuncData} (nb : Nb K mg) (F : Fun K ("are_in_the_way" : Str) ("are_in_the_way" : Str) (top 18) fa fd) (H_zoomed : Has P w K mg base 2 ("zoomed" : Str) (spP K 4 q_zoomed)) (H_do_clash : Has P w K mg base 1 ("do_clash" : Str) (spP K 2 q_do_clash)) :
    FnOk P w K mg base (L2N.CX P w) 3 fa fd [("chart" : Str), ("layout" : Str), ("one" : Str), ("other" : Str), ("zoom" : Str)] (spP K 5 q_are_in_the_way) := FnOk.imp (
  ok_fnP (k := 2) (N := [("chart" : Str), ("layout" : Str), ("one" : Str), ("other" : Str), ("zoom" : Str)]) F sc_are_in_the_way rfl fun cdv A outer s H E hr tk hp => by
    have hu : (A.deeper (envOfC ("are_in_the_way" : Str) (defScope (top 18)) s.heap.objs.size fa cdv)).units + 64 < cLine := by have := hr.un; omega
    exact (dss_cons (ds_ret (de_call (H_do_clash.mono (by decide)) hr tk (da_cons (de_call (H_zoomed.mono (by decide)) hr tk (da_cons (de_var 0) (da_cons (de_var 1) (da_cons (de_var 2) (da_cons (de_var 4) da_nil))))) (da_cons (de_call (H_zoomed.mono (by decide)) hr tk (da_cons (de_var 0) (da_cons (de_var 1) (da_cons (de_var 3) (da_cons (de_var 4) da_nil))))) da_nil)))) dss_nil)) (spP_ref s_are_in_the_way)
theorem sc_parting : FnScope [("chart" : Str), ("layout" : Str), ("one" : Str), ("other" : Str), ("low" : Str), ("high" : Str), ("middle" : Str)] [("chart" : Str), ("layout" : Str), ("one" : Str), ("other" : Str)] (defScope (top 20)) := ⟨rfl, rfl, rfl, by decide +kernel, rfl, by decide +kernel, by decide +kernel⟩
theorem h_parting {P : Program} {w : World} {K : PySem.W.Frag} {mg : Str → Option Value} {base : Heap} {fa : Addr} {fd : FuncData} (nb : Nb K mg) (F : Fun K ("parting" : Str) ("parting" : Str) (top 20) fa fd) (H_are_in_the_way : Has P w K mg base 3 ("are_in_the_way" : Str) (spP K 5 q_are_in_the_way)) :
    FnOk P w K mg base (L2N.CX P w) 4 fa fd [("chart" : Str), ("layout" : Str), ("one" : Str), ("other" : Str)] (spP K 4 q_parting) := FnOk.imp (
  ok_fnP (k := 3) (N := [("chart" : Str), ("layout" : Str), ("one" : Str), ("other" : Str), ("low" : Str), ("high" : Str), ("middle" : Str)]) F sc_parting rfl fun cdv A outer s H E hr tk hp => by
    have hu : (A.deeper (envOfC ("parting" : Str) (defScope (top 20)) s.heap.objs.size fa cdv)).units + 64 < cLine := by have := hr.un; omega
    exact (dss_cons (ds_par 4 5 (k1 := (.d (mC (.int 1)))) (k2 := (.d (mC (.int 20000)))) rfl sc_parting.nd de_int (de_glob nb.g_MOST_ZOOM)) (dss_cons (ds_if (dt_val (de_call (H_are_in_the_way.mono (by decide)) hr tk (da_cons (de_var 0) (da_cons (de_var 1) (da_cons (de_var 2) (da_cons (de_var 3) (da_cons (de_var 5) da_nil))))))) (dss_cons (ds_ret de_non) dss_nil) dss_nil) (dss_cons (ds_while hp (dt_cmp (ob_lt hu) (de_var 4) (de_var 5)) (dss_cons (ds_set 6 sc_parting.nd (de_op od_fdiv (de_op od_add (de_var 4) (de_var 5)) de_int)) (dss_cons (ds_asg (ix := [4, 5]) (de_if (dt_val (de_call (H_are_in_the_way.mono (by decide)) hr tk (da_cons (de_var 0) (da_cons (de_var 1) (da_cons (de_var 2) (da_cons (de_var 3) (da_cons (de_var 6) da_nil))))))) (de_tup (da_cons (de_op od_add (de_var 6) de_int) (da_cons (de_var 5) da_nil))) (de_tup (da_cons (de_var 4) (da_cons (de_var 6) da_nil)))) (dg_tup rfl (dgs_cons (dg_name 4 sc_parting.nd (by decide)) (dgs_cons (dg_name 5 sc_parting.nd (by decide)) dgs_nil)))) (dss_kill [6] dss_nil)))) (dss_cons (ds_ret (de_var 4)) dss_nil))))) (spP_ref s_parting)
theorem sc_parted_at : FnScope [("chart" : Str), ("layout" : Str), ("one" : Str), ("other" : Str)] [("chart" : Str), ("layout" : Str), ("one" : Str), ("other" : Str)] (defScope (top 21)) := ⟨rfl, rfl, rfl, by decide +kernel, rfl, by decide +kernel, by decide +kernel⟩
theorem h_parted_at {P : Program} {w : World} {K : PySem.W.Frag} {mg : Str → Option Value} {base : Heap} {fa : Addr} {fd : FuncData} (nb : Nb K mg) (F : Fun K ("parted_at" : Str) ("parted_at" : Str) (top 21) fa fd) (H_need_two : Has P w K mg base 4 ("need_two" : Str) (spP K 3 q_need_two)) (H_parting : Has P w K mg base 4 ("parting" : Str) (spP K 4 q_parting)) :
    FnOk P w K mg base (L2N.CX P w) 5 fa fd [("chart" : Str), ("layout" : Str), ("one" : Str), ("other" : Str)] (spP K 4 q_parted_at) := FnOk.imp (
  ok_fnP (k := 4) (N := [("chart" : Str), ("layout" : Str), ("one" : Str), ("other" : Str)]) F sc_parted_at rfl fun cdv A outer s H E hr tk hp => by
    have hu : (A.deeper (envOfC ("parted_at" : Str) (defScope (top 21)) s.heap.objs.size fa cdv)).units + 64 < cLine := by have := hr.un; omega
    exact (dss_cons (ds_expr (de_call (H_need_two.mono (by decide)) hr tk (da_cons (de_var 0) (da_cons (de_var 2) (da_cons (de_var 3) da_nil))))) (dss_cons (ds_ret (de_call (H_parting.mono (by decide)) hr tk (da_cons (de_var 0) (da_cons (de_var 1) (da_cons (de_var 2) (da_cons (de_var 3) da_nil)))))) dss_nil))) (spP_ref s_parted_at)
theorem sc_do_clash_at : FnScope [("chart" : Str), ("layout" : Str), ("one" : Str), ("other" : Str), ("zoom" : Str)] [("chart" : Str), ("layout" : Str), ("one" : Str), ("other" : Str), ("zoom" : Str)] (defScope (top 19)) := ⟨rfl, rfl, rfl, by decide +kernel, rfl, by decide +kernel, by decide +kernel⟩
theorem h_do_clash_at {P : Program} {w : World} {K : PySem.W.Frag} {mg : Str → Option Value} {base : Heap} {fa : Addr} {fd : FuncData} (nb : Nb K mg) (F : Fun K ("do_clash_at" : Str) ("do_clash_at" : Str) (top 19) fa fd) (H_need_two : Has P w K mg base 4 ("need_two" : Str) (spP K 3 q_need_two)) (H_are_in_the_way : Has P w K mg base 3 ("are_in_the_way" : Str) (spP K 5 q_are_in_the_way)) :
    FnOk P w K mg base (L2N.CX P w) 5 fa fd [("chart" : Str), ("layout" : Str), ("one" : Str), ("other" : Str), ("zoom" : Str)] (spP K 5 q_do_clash_at) := FnOk.imp (
  ok_fnP (k := 4) (N := [("chart" : Str), ("layout" : Str), ("one" : Str), ("other" : Str), ("zoom" : Str)]) F sc_do_clash_at rfl fun cdv A outer s H E hr tk hp => by
    have hu : (A.deeper (envOfC ("do_clash_at" : Str) (defScope (top 19)) s.heap.objs.size fa cdv)).units + 64 < cLine := by have := hr.un; omega
    exact (dss_cons (ds_expr (de_call (H_need_two.mono (by decide)) hr tk (da_cons (de_var 0) (da_cons (de_var 2) (da_cons (de_var 3) da_nil))))) (dss_cons (ds_ret (de_call (H_are_in_the_way.mono (by decide)) hr tk (da_cons (de_var 0) (da_cons (de_var 1) (da_cons (de_var 2) (da_cons (de_var 3) (da_cons (de_var 4) da_nil))))))) dss_nil))) (spP_ref s_do_clash_at)
theorem sc_law : FnScope [("script" : Str), ("bag" : Str), ("turn" : Str), ("chart" : Str), ("layout" : Str), ("many" : Str), ("zoom" : Str), ("one" : Str), ("other" : Str), ("due" : Str), ("hits" : Str), ("found" : Str), ("barred" : Str), ("row" : Str), ("point" : Str), ("its" : Str)] [("script" : Str)] (defScope (top 36)) := ⟨rfl, rfl, rfl, by decide +kernel, rfl, by decide +kernel, by decide +kernel⟩
theorem h_law {P : Program} {w : World} {K : PySem.W.Frag} {mg : Str → Option Value} {base : Heap} {fa : Addr} {fd : FuncData} (nb : Nb K mg) (F : Fun K "law" "law" (top 36) fa fd) (ha : PySem.W.nsIn K mainGlobals "law" = some (some (.ref fa))) (hb : L2.Binds K fd ["script"] []) (H__law_bag : Has P w K mg base 1 ("_law_bag" : Str) (spL K 1 q__law_bag)) (H__law_chart : Has P w K mg base 4 ("_law_chart" : Str) (spB K 5 q__law_chart)) (H__law_some : Has P w K mg base 2 ("_law_some" : Str) (spB K 2 q__law_some)) (H__law_alike : Has P w K mg base 1 ("_law_alike" : Str) (spP K 2 q__law_alike)) (H__law_zoomed : Has P w K mg base 1 ("_law_zoomed" : Str) (spP K 4 q__law_zoomed)) (H__law_hit : Has P w K mg base 2 ("_law_hit" : Str) (spP K 5 q__law_hit)) (H__law_parted : Has P w K mg base 3 ("_law_parted" : Str) (spP K 4 q__law_parted)) (H_box_zoomed : Has P w K mg base 4 ("box_zoomed" : Str) (spP K 4 q_box_zoomed)) (H_parted_at : Has P w K mg base 5 ("parted_at" : Str) (spP K 4 q_parted_at)) (H_do_clash_at : Has P w K mg base 5 ("do_clash_at" : Str) (spP K 5 q_do_clash_at)) (HH__law_heard : HelpH K mg ("_law_heard" : Str) (top 32) ("act" : Str)) {c0 P0 : Addr} (hti : PySem.W.tabIn K "law" = some (c0, P0)) (hTB : LamX.TabB base mg c0 P0) (hgo : ∀ ns : List Int, ns.length ≤ 63 → q_law [.list (ns.map .int)] = .ok (.bool true)) :
    LawRun P w K mg base fa [(c0, P0)] := ok_law (k := 7) (N := [("script" : Str), ("bag" : Str), ("turn" : Str), ("chart" : Str), ("layout" : Str), ("many" : Str), ("zoom" : Str), ("one" : Str), ("other" : Str), ("due" : Str), ("hits" : Str), ("found" : Str), ("barred" : Str), ("row" : Str), ("point" : Str), ("its" : Str)]) (b := b_law) F ha sc_law hb ⟨rfl, by decide, by decide⟩ (fun p hp => by rw [List.mem_singleton] at hp; rw [hp]; exact hti) (fun cdv A outer s H E hgd hc0 hr tk hp => by
    have hu : (A.deeper (envOfC "law" (defScope (top 36)) s.heap.objs.size fa cdv)).units + 64 < cLine := by have := hr.un; omega
    have hcd : cdv = .ref c0 := hc0 (c0, P0) List.mem_cons_self
    obtain ⟨g__law_heard', fd__law_heard, m__law_heard, F__law_heard, b__law_heard⟩ := HH__law_heard.ex
    exact (dss_cons (ds_setOwn 1 sc_law.nd (dl_call (H__law_bag.mono (by decide)) hr tk (da_cons (de_var 0) da_nil))) (dss_cons (ds_for (ix := [2]) hp rfl (di_range1 nb.range de_int) (dg_name 2 sc_law.nd (by decide)) (dss_cons (ds_set 3 sc_law.nd (de_callB (H__law_chart.mono (by decide)) hr tk 1 (da_cons de_int (da_cons de_int (da_cons de_int (da_cons de_int da_nil)))))) (dss_cons (ds_parT 4 5 (k1 := (.d (mV tupS (mView (mOfL (mComp (mSeqI (mOp ixD (mVar 3) (mC (.int 0)))) [13] (gN 13) (mC (.bool true)) (mCallB 2 q__law_some 1 (mCons (mOp ixD (mVar 13) (mC (.int 5))) mNil)))))))) (k2 := (.d (mV lenS (mView (mOp ixD (mVar 3) (mC (.int 0))))))) rfl sc_law.nd (de_callTv cd_tuple bt_tuple nb.tuple (dv_of (de_ofL (dl_lc (own := [(("row" : Str), 13)]) rfl sc_law.nd (di_seq (de_ix hu (de_var 3) de_int)) (blkOk_by (by kernel_rfl)) (fun _ _ _ _ _ => (dg_name 13 sc_law.nd (by decide))) (fun _ _ _ _ _ => dp_nil) (fun _ _ _ _ _ => (de_callB (H__law_some.mono (by decide)) hr takes0N 1 (da_cons (de_ix hu (de_var 13) de_int) da_nil))))))) (de_callBv cd_len bt_len nb.len (dv_of (de_ix hu (de_var 3) de_int)))) (dss_cons (ds_set 6 sc_law.nd (de_callB (H__law_some.mono (by decide)) hr tk 1 (da_cons (de_ofL (dl_lst (da_cons de_int (da_cons de_int (da_cons de_int (da_cons de_int (da_cons de_int da_nil))))))) da_nil))) (dss_cons (ds_if (dt_not (dt_val (de_call (H__law_alike.mono (by decide)) hr tk (da_cons (de_ofL (dl_lc (own := [(("point" : Str), 14)]) rfl sc_law.nd (di_range1 nb.range (de_var 5)) (blkOk_by (by kernel_rfl)) (fun _ _ _ _ _ => (dg_name 14 sc_law.nd (by decide))) (fun _ _ _ _ _ => dp_nil) (fun _ _ _ _ _ => (de_call (H_box_zoomed.mono (by decide)) hr takes0N (da_cons (de_var 3) (da_cons (de_var 4) (da_cons (de_var 14) (da_cons (de_var 6) da_nil)))))))) (da_cons (de_ofL (dl_lc (own := [(("point" : Str), 14)]) rfl sc_law.nd (di_range1 nb.range (de_var 5)) (blkOk_by (by kernel_rfl)) (fun _ _ _ _ _ => (dg_name 14 sc_law.nd (by decide))) (fun _ _ _ _ _ => dp_nil) (fun _ _ _ _ _ => (de_call (H__law_zoomed.mono (by decide)) hr takes0N (da_cons (de_var 3) (da_cons (de_var 4) (da_cons (de_var 14) (da_cons (de_var 6) da_nil)))))))) da_nil))))) (dss_cons (ds_ret de_bl) dss_nil) dss_nil) (dss_cons (ds_for (ix := [7]) hp rfl (di_range1 nb.range (de_var 5)) (dg_name 7 sc_law.nd (by decide)) (dss_cons (ds_for (ix := [8]) hp rfl (di_seq (de_ofL (dl_lc (own := [(("its" : Str), 15)]) rfl sc_law.nd (di_range1 nb.range (de_var 5)) (blkOk_by (by kernel_rfl)) (fun _ _ _ _ _ => (dg_name 15 sc_law.nd (by decide))) (fun _ _ _ _ _ => (dp_one (dt_cmp (ob_ne hu) (de_var 15) (de_var 7)))) (fun _ _ _ _ _ => (de_var 15))))) (dg_name 8 sc_law.nd (by decide)) (dss_cons (ds_set 9 sc_law.nd (de_call (H__law_parted.mono (by decide)) hr tk (da_cons (de_var 3) (da_cons (de_var 4) (da_cons (de_var 7) (da_cons (de_var 8) da_nil)))))) (dss_cons (ds_setLc (own := [(("its" : Str), 15)]) 10 rfl sc_law.nd rfl rfl rfl (di_seq (de_tup (da_cons de_int (da_cons de_int (da_cons de_int (da_cons de_int (da_cons de_int da_nil))))))) (blkOk_by (by kernel_rfl)) (fun _ _ _ _ _ => (dg_name 15 sc_law.nd (by decide))) (fun _ _ _ _ _ => dp_nil) (fun _ _ _ _ _ => (de_call (H__law_hit.mono (by decide)) hr takes0N (da_cons (de_var 3) (da_cons (de_var 4) (da_cons (de_var 7) (da_cons (de_var 8) (da_cons (de_var 15) da_nil)))))))) (dss_cons (ds_if (dt_not (dt_val (de_call (H__law_alike.mono (by decide)) hr tk (da_cons (de_ofL (dl_lst (da_cons (de_call (H_parted_at.mono (by decide)) hr tk (da_cons (de_var 3) (da_cons (de_var 4) (da_cons (de_var 7) (da_cons (de_var 8) da_nil))))) (da_cons (de_ofL (dl_lc (own := [(("its" : Str), 15)]) rfl sc_law.nd (di_seq (de_tup (da_cons de_int (da_cons de_int (da_cons de_int (da_cons de_int (da_cons de_int da_nil))))))) (blkOk_by (by kernel_rfl)) (fun _ _ _ _ _ => (dg_name 15 sc_law.nd (by decide))) (fun _ _ _ _ _ => dp_nil) (fun _ _ _ _ _ => (de_call (H_do_clash_at.mono (by decide)) hr takes0N (da_cons (de_var 3) (da_cons (de_var 4) (da_cons (de_var 7) (da_cons (de_var 8) (da_cons (de_var 15) da_nil))))))))) da_nil)))) (da_cons (de_ofL (dl_lst (da_cons (de_var 9) (da_cons (de_var 10) da_nil)))) da_nil))))) (dss_cons (ds_ret de_bl) dss_nil) dss_nil) (dss_cons (ds_if (PW.pt (dw_or (dt_cmp (ob_ne hu) (de_var 10) (de_rev2 (de_ofL (dl_callBv (cd_sorted hu) bt_sorted nb.sorted (dv_of (de_var 10)))))) (dw_or1 (PW.pt (dw_and (dt_cmp ob_is (de_var 9) de_non) (dw_and1 (dt_cmp (ob_in hu) de_bl (de_var 10)))))))) (dss_cons (ds_ret de_bl) dss_nil) dss_nil) (dss_kill [8, 9, 10] dss_nil)))))) (dss_kill [7] dss_nil))) (dss_cons (ds_setOwn 11 sc_law.nd (dl_lst (da_cons (de_lam (k := 5) (T := lamT [(c0, P0)]) rfl m__law_heard F__law_heard b__law_heard sc__law_heard rfl (.inl rfl) (fun cdv => g__law_heard nb (hu200 hr)) hTB hcd lamT_one lamT_all (hr.mono (by decide)) (LamX.lamS_by rfl) rfl (fun _ _ _ _ _ => rfl) (fun A outer s H E f c' hr tk => have hu := hu64 hr; (de_call (H_box_zoomed.mono (by decide)) hr tk (da_cons (de_var 3) (da_cons (de_var 4) (da_cons (de_var 5) (da_cons de_int da_nil))))))) da_nil))) (dss_cons (ds_append 11 (de_lam (k := 5) (T := lamT [(c0, P0)]) rfl m__law_heard F__law_heard b__law_heard sc__law_heard rfl (.inl rfl) (fun cdv => g__law_heard nb (hu200 hr)) hTB hcd lamT_one lamT_all (hr.mono (by decide)) (LamX.lamS_by rfl) rfl (fun _ _ _ _ _ => rfl) (fun A outer s H E f c' hr tk => have hu := hu64 hr; (de_call (H_parted_at.mono (by decide)) hr tk (da_cons (de_var 3) (da_cons (de_var 4) (da_cons de_int (da_cons de_non da_nil)))))))) (dss_cons (ds_append 11 (de_lam (k := 5) (T := lamT [(c0, P0)]) rfl m__law_heard F__law_heard b__law_heard sc__law_heard rfl (.inl rfl) (fun cdv => g__law_heard nb (hu200 hr)) hTB hcd lamT_one lamT_all (hr.mono (by decide)) (LamX.lamS_by rfl) rfl (fun _ _ _ _ _ => rfl) (fun A outer s H E f c' hr tk => have hu := hu64 hr; (de_call (H_parted_at.mono (by decide)) hr tk (da_cons (de_var 3) (da_cons (de_var 4) (da_cons de_bl (da_cons de_int da_nil)))))))) (dss_cons (ds_append 11 (de_lam (k := 5) (T := lamT [(c0, P0)]) rfl m__law_heard F__law_heard b__law_heard sc__law_heard rfl (.inl rfl) (fun cdv => g__law_heard nb (hu200 hr)) hTB hcd lamT_one lamT_all (hr.mono (by decide)) (LamX.lamS_by rfl) rfl (fun _ _ _ _ _ => rfl) (fun A outer s H E f c' hr tk => have hu := hu64 hr; (de_call (H_do_clash_at.mono (by decide)) hr tk (da_cons (de_var 3) (da_cons (de_var 4) (da_cons de_int (da_cons de_int (da_cons de_int da_nil))))))))) (dss_frz 11 (dss_cons (ds_if (dt_not (dt_val (de_call (H__law_alike.mono (by decide)) hr tk (da_cons (de_var 11) (da_cons (de_ofL (dl_lst (da_cons (de_tup (da_cons de_str (da_cons (de_var 5) da_nil))) (da_cons (de_tup (da_cons de_str (da_cons de_non da_nil))) (da_cons (de_tup (da_cons de_str (da_cons de_bl da_nil))) (da_cons (de_tup (da_cons de_str (da_cons de_str da_nil))) da_nil)))))) da_nil))))) (dss_cons (ds_ret de_bl) dss_nil) dss_nil) (dss_cons (ds_set 12 sc_law.nd (de_tup (da_cons (de_ix hu (de_var 3) de_int) (da_cons (de_tup (da_cons (de_tup (da_cons de_int (da_cons de_int (da_cons de_int (da_cons de_int da_nil))))) da_nil)) da_nil)))) (dss_cons (ds_setOwn 11 sc_law.nd (dl_lst (da_cons (de_lam (k := 5) (T := lamT [(c0, P0)]) rfl m__law_heard F__law_heard b__law_heard sc__law_heard rfl (.inl rfl) (fun cdv => g__law_heard nb (hu200 hr)) hTB hcd lamT_one lamT_all (hr.mono (by decide)) (LamX.lamS_by rfl) rfl (fun _ _ _ _ _ => rfl) (fun A outer s H E f c' hr tk => have hu := hu64 hr; (de_call (H_box_zoomed.mono (by decide)) hr tk (da_cons (de_var 12) (da_cons (de_var 4) (da_cons (de_var 5) (da_cons de_int da_nil))))))) da_nil))) (dss_cons (ds_append 11 (de_lam (k := 5) (T := lamT [(c0, P0)]) rfl m__law_heard F__law_heard b__law_heard sc__law_heard rfl (.inl rfl) (fun cdv => g__law_heard nb (hu200 hr)) hTB hcd lamT_one lamT_all (hr.mono (by decide)) (LamX.lamS_by rfl) rfl (fun _ _ _ _ _ => rfl) (fun A outer s H E f c' hr tk => have hu := hu64 hr; (de_call (H_parted_at.mono (by decide)) hr tk (da_cons (de_var 12) (da_cons (de_var 4) (da_cons de_int (da_cons de_int da_nil)))))))) (dss_frz 11 (dss_cons (ds_if (dt_not (dt_val (de_call (H__law_alike.mono (by decide)) hr tk (da_cons (de_var 11) (da_cons (de_op od_mul (de_ofL (dl_lst (da_cons (de_tup (da_cons de_str (da_cons de_str da_nil))) da_nil))) de_int) da_nil))))) (dss_cons (ds_ret de_bl) dss_nil) dss_nil) (dss_kill [2, 3, 4, 5, 6, 11, 12] dss_nil)))))))))))))))))) (dss_cons (ds_ret de_bl) dss_nil)))) (law_ref s_law hgo)
end L2.DL.k48

namespace L2.DL.k48
open PySem PySem.Spec PyProof.Rows
open L2.DL.Cm
/-- a point's box at a zoom -/
def zb (p : Pt) (k z : Int) : Bx := bxOf { p with x := p.x * z, y := p.y * z } k
/-- two boxes share a cell -/
def hit (b c : Bx) : Bool := decide (b.l < c.r ∧ c.l < b.r ∧ b.b < c.t ∧ c.b < b.t)
section
variable {ps : List Pt} {bs : List Bx} {ks : List Int} {i j : Nat} {p q : Pt} {k l z : Int}
theorem at_p (h : ps[i]? = some p) : atI (ps.map ptD) (i : Int) = some (ptD p) := at_nat (by rw [List.getElem?_map, h]; rfl)
theorem at_k (h : ks[i]? = some k) : atI (ks.map PyData.int) (i : Int) = some (.int k) := at_nat (by rw [List.getElem?_map, h]; rfl)
theorem zoomed_go (h : ps[i]? = some p) (hk : ks[i]? = some k) (hz : sm z = true) : q_zoomed [chartD ps bs, .tuple (ks.map .int), .int (i : Int), .int z] = .ok (bxD (zb p k z)) := by
  have m : ∀ x : Int, mulD (.int x) (.int z) = .ok (.int (x * z)) := fun x => mulD_int (by rw [hz, Bool.or_true])
  unfold q_zoomed
  simp [chartD, at_p h, at_k hk, ptD, m, box_at_go, zb, bxOf]
theorem law_zoomed_go (h : ps[i]? = some p) (hk : ks[i]? = some k) (hz : sm z = true) : q__law_zoomed [chartD ps bs, .tuple (ks.map .int), .int (i : Int), .int z] = .ok (bxD (zb p k z)) := by
  have m : ∀ x : Int, mulD (.int x) (.int z) = .ok (.int (x * z)) := fun x => mulD_int (by rw [hz, Bool.or_true])
  unfold q__law_zoomed
  by_cases h1 : k = 0 ∨ k = 2 <;> by_cases h2 : k = 0 ∨ k = 1 <;> simp [chartD, at_p h, at_k hk, ptD, m, in2, h1, h2, bxD, zb, bxOf]
theorem clash_go (b c : Bx) : q_do_clash [bxD b, bxD c] = .ok (.bool (hit b c)) := by
  unfold q_do_clash hit
  by_cases h1 : b.l < c.r <;> by_cases h2 : c.l < b.r <;> by_cases h3 : b.b < c.t <;> simp [bxD, h1, h2, h3]
theorem meet_go {b c : Bx} (hb : b.l < b.r ∧ b.b < b.t) (hc : c.l < c.r ∧ c.b < c.t) : q__law_meet [bxD b, bxD c] = .ok (.bool (hit b c)) := by
  have e : hit b c = (decide (0 < min b.r c.r - max b.l c.l) && decide (0 < min b.t c.t - max b.b c.b)) := by
    unfold hit
    rw [← Bool.decide_and]
    exact decide_eq_decide.mpr (by omega)
  unfold q__law_meet
  rw [e]
  by_cases h1 : max b.l c.l < min b.r c.r <;> simp [bxD, h1]
theorem way_go (h : ps[i]? = some p) (hk : ks[i]? = some k) (h' : ps[j]? = some q) (hl : ks[j]? = some l) (hz : sm z = true) : q_are_in_the_way [chartD ps bs, .tuple (ks.map .int), .int (i : Int), .int (j : Int), .int z] = .ok (.bool (hit (zb p k z) (zb q l z))) := by
  unfold q_are_in_the_way
  simp [zoomed_go h hk hz, zoomed_go h' hl hz, clash_go]
theorem zb_wf {most : Int} (o : PtOk most 6 p) : (zb p k z).l < (zb p k z).r ∧ (zb p k z).b < (zb p k z).t := by
  have := o.w0
  have := o.h0
  unfold zb bxOf
  dsimp only
  omega
theorem law_hit_go {most : Int} (o : PtOk most 6 p) (o' : PtOk most 6 q) (h : ps[i]? = some p) (hk : ks[i]? = some k) (h' : ps[j]? = some q) (hl : ks[j]? = some l) (hz : sm z = true) :
    q__law_hit [chartD ps bs, .tuple (ks.map .int), .int (i : Int), .int (j : Int), .int z] = .ok (.bool (hit (zb p k z) (zb q l z))) := by
  unfold q__law_hit
  simp [law_zoomed_go h hk hz, law_zoomed_go h' hl hz, meet_go (zb_wf o) (zb_wf o')]
/-- once parted they stay so -/
theorem hit_mono {most : Int} (o : PtOk most 6 p) (o' : PtOk most 6 q) {z w : Int} (h1 : 1 ≤ z) (h2 : z ≤ w) (h : hit (zb p k w) (zb q l w) = true) : hit (zb p k z) (zb q l z) = true := by
  obtain ⟨x0, x1, y0, y1, w0, w1, g0, g1, _⟩ := o
  obtain ⟨x0', x1', y0', y1', w0', w1', g0', g1', _⟩ := o'
  unfold hit at h ⊢
  have h := of_decide_eq_true h
  refine decide_eq_true ?_
  obtain ⟨e, he, rfl⟩ : ∃ e : Int, 0 ≤ e ∧ w = z + e := ⟨w - z, by omega, by omega⟩
  have key : ∀ a b c d : Int, 0 ≤ c → 0 ≤ d → (a * (z + e) - b * (z + e) < c) → (b * (z + e) - a * (z + e) < d) → (a * z - b * z < c) ∧ (b * z - a * z < d) := by
    intro a b c d hc hd k1 k2
    rw [Int.mul_add, Int.mul_add] at k1 k2
    rcases Int.lt_trichotomy a b with z1 | z1 | z1
    · have m1 : (a + 1) * z ≤ b * z := Int.mul_le_mul_of_nonneg_right (by omega) (by omega)
      have m2 : a * e ≤ b * e := Int.mul_le_mul_of_nonneg_right (by omega) he
      rw [Int.add_mul] at m1
      omega
    · subst z1; omega
    · have m1 : (b + 1) * z ≤ a * z := Int.mul_le_mul_of_nonneg_right (by omega) (by omega)
      have m2 : b * e ≤ a * e := Int.mul_le_mul_of_nonneg_right (by omega) he
      rw [Int.add_mul] at m1
      omega
  unfold zb bxOf at h ⊢
  dsimp only at h ⊢
  have a1 : (if k = 0 ∨ k = 2 then p.x * (z + e) else p.x * (z + e) - p.w) = p.x * (z + e) - (if k = 0 ∨ k = 2 then 0 else p.w) := by split <;> omega
  have a2 : (if k = 0 ∨ k = 1 then p.y * (z + e) else p.y * (z + e) - p.h) = p.y * (z + e) - (if k = 0 ∨ k = 1 then 0 else p.h) := by split <;> omega
  have a3 : (if l = 0 ∨ l = 2 then q.x * (z + e) else q.x * (z + e) - q.w) = q.x * (z + e) - (if l = 0 ∨ l = 2 then 0 else q.w) := by split <;> omega
  have a4 : (if l = 0 ∨ l = 1 then q.y * (z + e) else q.y * (z + e) - q.h) = q.y * (z + e) - (if l = 0 ∨ l = 1 then 0 else q.h) := by split <;> omega
  have b1 : (if k = 0 ∨ k = 2 then p.x * z else p.x * z - p.w) = p.x * z - (if k = 0 ∨ k = 2 then 0 else p.w) := by split <;> omega
  have b2 : (if k = 0 ∨ k = 1 then p.y * z else p.y * z - p.h) = p.y * z - (if k = 0 ∨ k = 1 then 0 else p.h) := by split <;> omega
  have b3 : (if l = 0 ∨ l = 2 then q.x * z else q.x * z - q.w) = q.x * z - (if l = 0 ∨ l = 2 then 0 else q.w) := by split <;> omega
  have b4 : (if l = 0 ∨ l = 1 then q.y * z else q.y * z - q.h) = q.y * z - (if l = 0 ∨ l = 1 then 0 else q.h) := by split <;> omega
  rw [a1, a2, a3, a4] at h
  rw [b1, b2, b3, b4]
  have c1 : (0:Int) ≤ (if k = 0 ∨ k = 2 then 0 else p.w) ∧ (if k = 0 ∨ k = 2 then 0 else p.w) ≤ p.w := by split <;> omega
  have c2 : (0:Int) ≤ (if k = 0 ∨ k = 1 then 0 else p.h) ∧ (if k = 0 ∨ k = 1 then 0 else p.h) ≤ p.h := by split <;> omega
  have c3 : (0:Int) ≤ (if l = 0 ∨ l = 2 then 0 else q.w) ∧ (if l = 0 ∨ l = 2 then 0 else q.w) ≤ q.w := by split <;> omega
  have c4 : (0:Int) ≤ (if l = 0 ∨ l = 1 then 0 else q.h) ∧ (if l = 0 ∨ l = 1 then 0 else q.h) ≤ q.h := by split <;> omega
  generalize (if k = 0 ∨ k = 2 then (0:Int) else p.w) = u1 at *
  generalize (if k = 0 ∨ k = 1 then (0:Int) else p.h) = u2 at *
  generalize (if l = 0 ∨ l = 2 then (0:Int) else q.w) = u3 at *
  generalize (if l = 0 ∨ l = 1 then (0:Int) else q.h) = u4 at *
  obtain ⟨k1, k2, k3, k4⟩ := h
  have r1 := key p.x q.x (u1 - u3 + q.w) (u3 - u1 + p.w) (by omega) (by omega) (by omega) (by omega)
  have r2 := key p.y q.y (u2 - u4 + q.h) (u4 - u2 + p.h) (by omega) (by omega) (by omega) (by omega)
  omega
end
end L2.DL.k48

namespace L2.DL.k48
open PySem PySem.Spec PyProof.Rows
open L2.DL.Cm
/-- whether two names clash at a zoom -/
def hz (p : Pt) (k : Int) (q : Pt) (l : Int) (z : Int) : Bool := hit (zb p k z) (zb q l z)
section
variable {ps : List Pt} {bs : List Bx} {ks : List Int} {i j : Nat} {p q : Pt} {k l : Int} {most : Int}
/-- what stands at 12 is never parted -/
theorem hit_far (o : PtOk most 6 p) (o' : PtOk most 6 q) (h : hz p k q l 12 = true) : hz p k q l 20000 = true := by
  obtain ⟨x0, x1, y0, y1, w0, w1, g0, g1, _⟩ := o
  obtain ⟨x0', x1', y0', y1', w0', w1', g0', g1', _⟩ := o'
  unfold hz hit at h ⊢
  have h := of_decide_eq_true h
  refine decide_eq_true ?_
  unfold zb bxOf at h ⊢
  dsimp only at h ⊢
  by_cases c1 : k = 0 ∨ k = 2 <;> by_cases c2 : k = 0 ∨ k = 1 <;> by_cases c3 : l = 0 ∨ l = 2 <;> by_cases c4 : l = 0 ∨ l = 1 <;> simp only [c1, c2, c3, c4, if_true, if_false] at h ⊢ <;> omega
/-- where they part, if they do -/
inductive PartAt (f : Int → Bool) : D → Prop
  | never : (∀ z, 1 ≤ z → z ≤ 20000 → f z = true) → PartAt f .none
  | at (m : Int) : 1 ≤ m → m ≤ 12 → f m = false → (∀ z, 1 ≤ z → z < m → f z = true) → PartAt f (.int m)
theorem partAt_uniq {f : Int → Bool} {d e : D} (h : PartAt f d) (h' : PartAt f e) : d = e := by
  cases h with
  | never a =>
    cases h' with
    | never b => rfl
    | «at» m h1 h2 h3 h4 => rw [a m h1 (by omega)] at h3; cases h3
  | «at» m h1 h2 h3 h4 =>
    cases h' with
    | never a => rw [a m h1 (by omega)] at h3; cases h3
    | «at» n g1 g2 g3 g4 =>
      rcases Int.lt_trichotomy m n with z | z | z
      · rw [g4 m h1 z] at h3; cases h3
      · rw [z]
      · rw [h4 n g1 z] at g3; cases g3
theorem parting_go (o : PtOk most 6 p) (o' : PtOk most 6 q) (h : ps[i]? = some p) (hk : ks[i]? = some k) (h' : ps[j]? = some q) (hl : ks[j]? = some l) : ∃ d, q_parting [chartD ps bs, .tuple (ks.map .int), .int (i : Int), .int (j : Int)] = .ok d ∧ PartAt (hz p k q l) d := by
  have way : ∀ z : Int, 0 ≤ z → z ≤ 20000 → q_are_in_the_way [chartD ps bs, .tuple (ks.map .int), .int (i : Int), .int (j : Int), .int z] = .ok (.bool (hz p k q l z)) := fun z h0 h1 => way_go h hk h' hl (sm_of h0 (by omega))
  have mono : ∀ z w : Int, 1 ≤ z → z ≤ w → hz p k q l w = true → hz p k q l z = true := fun z w h1 h2 h3 => hit_mono o o' h1 h2 h3
  unfold q_parting
  simp only [m4, bnd_ok]
  have e1 : q_are_in_the_way [chartD ps bs, .tuple (ks.map .int), .int (i : Int), .int (j : Int), .int 20000] = _ := way 20000 (by omega) (by omega)
  by_cases hf : hz p k q l 20000 = true
  · refine ⟨.none, ?_, .never fun z h1 h2 => mono z 20000 h1 h2 hf⟩
    simp [e1, hf]
  · have hf : hz p k q l 20000 = false := by simpa using hf
    have wh := In.whl (S := D × D) (c := fun (s_8 : D × D) => (qcmp ltD (.ok s_8.1) (.ok s_8.2))) (b := fun (s_8 : D × D) => (bnd (q2 fdivD (q2 addD (.ok s_8.1) (.ok s_8.2)) (.ok (.int 2))) fun (middle_10 : D) => (bnd (qifs (qcall 5 q_are_in_the_way (qcons (.ok (chartD ps bs)) (qcons (.ok (.tuple (ks.map .int))) (qcons (.ok (.int (i : Int))) (qcons (.ok (.int (j : Int))) (qcons (.ok middle_10) qnil)))))) (qtup (qcons (q2 addD (.ok middle_10) (.ok (.int 1))) (qcons (.ok s_8.2) qnil))) (qtup (qcons (.ok s_8.1) (qcons (.ok middle_10) qnil)))) fun d_11 => bnd (pur (unp (.t [.n, .n]) d_11)) (m2 fun low_12 high_13 => (.ok (.nx (low_12, high_13)))))))
      (Q := fun s => ∃ m : Int, s.1 = .int m ∧ 1 ≤ m ∧ hz p k q l m = false ∧ ∀ z, 1 ≤ z → z < m → hz p k q l z = true) (s := (.int 1, .int 20000))
      (fun n s => ∃ lo hi : Int, s = (.int lo, .int hi) ∧ 1 ≤ lo ∧ lo ≤ hi ∧ hi ≤ 20000 ∧ hz p k q l hi = false ∧ (∀ z, 1 ≤ z → z < lo → hz p k q l z = true) ∧ n = (hi - lo).toNat) (20000 - 1) ⟨1, 20000, rfl, by omega, by omega, by omega, hf, fun z h1 h2 => by omega, by omega⟩ ?_
    · obtain ⟨r, hr, s', rfl, m, e, m1, m2, m3⟩ := wh
      have hm : m ≤ 12 := by
        by_cases c : m ≤ 12
        · exact c
        · have z := hit_far o o' (m3 12 (by omega) (by omega))
          rw [hf] at z
          cases z
      refine ⟨.int m, ?_, .at m m1 hm m2 m3⟩
      simp only [qifs, qcall, qcons, qnil, bnd_ok, List.length_cons, List.length_nil, if_true, e1, hf, qsel_f]
      simp only [qifs, qcall, qcons, qnil, bnd_ok, List.length_cons, List.length_nil, if_true] at hr
      rw [hr]
      simp [e]
    · rintro n s ⟨lo, hi, rfl, h1, h2, h3, h4, h5, rfl⟩
      by_cases c : lo < hi
      · right
        have hd : fdivD (.int (lo + hi)) (.int 2) = .ok (.int ((lo + hi) / 2)) := fdivD_int (by omega) (by omega)
        have e2 := way ((lo + hi) / 2) (by omega) (by omega)
        cases hm : hz p k q l ((lo + hi) / 2) with
        | true =>
          rw [hm] at e2
          refine ⟨(.int ((lo + hi) / 2 + 1), .int hi), (hi - ((lo + hi) / 2 + 1)).toNat, by omega, by simp [c], by simp [hd, e2], _, _, rfl, by omega, by omega, h3, h4, fun z z1 z2 => mono z _ z1 (by omega) hm, rfl⟩
        | false =>
          rw [hm] at e2
          refine ⟨(.int lo, .int ((lo + hi) / 2)), ((lo + hi) / 2 - lo).toNat, by omega, by simp [c], by simp [hd, e2], _, _, rfl, by omega, by omega, by omega, hm, h5, rfl⟩
      · left
        have : lo = hi := by omega
        subst this
        exact ⟨by simp, lo, rfl, h1, h4, h5⟩
theorem law_parted_go (o : PtOk most 6 p) (o' : PtOk most 6 q) (h : ps[i]? = some p) (hk : ks[i]? = some k) (h' : ps[j]? = some q) (hl : ks[j]? = some l) : ∃ d, q__law_parted [chartD ps bs, .tuple (ks.map .int), .int (i : Int), .int (j : Int)] = .ok d ∧ PartAt (hz p k q l) d := by
  have way : ∀ z : Int, 0 ≤ z → z ≤ 20000 → q__law_hit [chartD ps bs, .tuple (ks.map .int), .int (i : Int), .int (j : Int), .int z] = .ok (.bool (hz p k q l z)) := fun z h0 h1 => law_hit_go o o' h hk h' hl (sm_of h0 (by omega))
  have mono : ∀ z w : Int, 1 ≤ z → z ≤ w → hz p k q l w = true → hz p k q l z = true := fun z w h1 h2 h3 => hit_mono o o' h1 h2 h3
  unfold q__law_parted
  simp only [m4]
  have er : qrng2 (.ok (.int 1)) (.ok (.int 41)) = .ok ((List.range 40).map fun (i : Nat) => PyData.int (1 + (i : Int))) := by simp [rng2, rgOk, rngD]
  rw [er, filQ (π := fun (i : Nat) => !hz p k q l (1 + (i : Int))) (φ := fun (i : Nat) => PyData.int (1 + (i : Int))) (by simp) (fun x hx => by
    have hx := List.mem_range.mp hx
    cases c : hz p k q l (1 + (x : Int)) <;> simp [way (1 + (x : Int)) (by omega) (by omega), c]) (fun x _ _ => rfl)]
  simp only [qofL, bnd_ok]
  by_cases hf : hz p k q l 20000 = true
  · have e : (List.range 40).filter (fun (i : Nat) => !hz p k q l (1 + (i : Int))) = [] := by
      refine List.filter_eq_nil_iff.mpr fun x hx => ?_
      have hx := List.mem_range.mp hx
      simp [mono (1 + (x : Int)) 20000 (by omega) (by omega) hf]
    refine ⟨.none, ?_, .never fun z h1 h2 => mono z 20000 h1 h2 hf⟩
    rw [e]
    simp [neD_nil0]
  · have h12 : hz p k q l 12 = false := by
      cases c : hz p k q l 12 with
      | false => rfl
      | true => exact absurd (hit_far o o' c) hf
    cases e : (List.range 40).filter (fun (i : Nat) => !hz p k q l (1 + (i : Int))) with
    | nil =>
      have := List.filter_eq_nil_iff.mp e 11 (by simp)
      simp [h12] at this
    | cons a r =>
      have ha : a ∈ (List.range 40).filter (fun (i : Nat) => !hz p k q l (1 + (i : Int))) := by rw [e]; exact List.mem_cons_self
      obtain ⟨ha1, ha2⟩ := List.mem_filter.mp ha
      have ha1 := List.mem_range.mp ha1
      have so : (a :: r).Pairwise (· < ·) := by
        rw [← e]
        exact List.Pairwise.filter _ List.pairwise_lt_range
      have low : ∀ b : Nat, b < a → hz p k q l (1 + (b : Int)) = true := fun b hb => by
        cases c : hz p k q l (1 + (b : Int)) with
        | true => rfl
        | false =>
          have : b ∈ a :: r := by
            rw [← e]
            exact List.mem_filter.mpr ⟨List.mem_range.mpr (by omega), by simp [c]⟩
          rcases List.mem_cons.mp this with z | z
          · omega
          · have := (List.pairwise_cons.mp so).1 b z
            omega
      refine ⟨.int (1 + (a : Int)), ?_, .at _ (by omega) ?_ (by simpa using ha2) fun z z1 z2 => ?_⟩
      · have pl : PyData.plainAll (PyData.int (1 + (a : Int)) :: r.map fun (i : Nat) => PyData.int (1 + (i : Int))) = true := by
          have := plainAll_map (enc := fun (i : Nat) => PyData.int (1 + (i : Int))) (fun _ => rfl) (a :: r)
          simpa using this
        simp [neD_nil _ _ pl]
      · by_cases c : a ≤ 11
        · omega
        · have := low 11 (by omega)
          simp [h12] at this
      · have := low (z - 1).toNat (by omega)
        rwa [show 1 + (((z - 1).toNat : Nat) : Int) = z from by omega] at this
end
end L2.DL.k48

namespace L2.DL.k48
open PySem PySem.Spec PyProof.Rows
open L2.DL.Cm
section
variable {ps : List Pt} {bs : List Bx} {ks : List Int} {i j : Nat} {p q : Pt} {k l z : Int} {d e : D}
theorem len_chart : qv lenS (qview (q2 ixD (.ok (chartD ps bs)) (.ok (.int 0)))) = .ok (.int (ps.length : Int)) := by simp [chartD]
theorem bare_go : q_need_bare [chartD ps []] = .ok .none := by
  unfold q_need_bare
  simp [chartD, neD, near, PyData.depth, PyData.depthAll, PyData.plain, PyData.plainAll, PyData.eqv, PyData.eqvAll]
theorem bare_no {b : Bx} {r : List Bx} : q_need_bare [chartD ps (b :: r)] = .error (.exc ("Refused" : Str) [(("why" : Str), .str ("bars" : Str))] []) := by
  have hp : PyData.plainAll ((b :: r).map bxD) = true := plainAll_map (fun b => by simp [bxD, PyData.plain, PyData.plainAll]) _
  have : neD (.tuple ((b :: r).map bxD)) (.tuple []) = .ok true := by
    rw [List.map_cons] at hp ⊢
    rw [PyData.plainAll, Bool.and_eq_true] at hp
    simp [neD, near, PyData.depth, PyData.depthAll, PyData.plain, hp.1, hp.2, PyData.plainAll, PyData.eqv, PyData.eqvAll]
  unfold q_need_bare
  rw [List.map_cons] at this
  simp [chartD, this, qraise]
theorem within_int (a b c : Int) : q_is_within [.int a, .int b, .int c] = .ok (.bool (decide (b ≤ a ∧ a ≤ c))) := by
  unfold q_is_within q_is_integer
  by_cases h : b ≤ a <;> simp [h, isT]
theorem point_go (h : i < ps.length) : q_need_point [chartD ps bs, .int (i : Int)] = .ok .none := by
  have e : decide (0 ≤ (i : Int) ∧ (i : Int) ≤ (ps.length : Int) - 1) = true := decide_eq_true (by omega)
  unfold q_need_point
  simp [chartD, within_int]
  rw [if_pos (by omega)]
  rfl
theorem point_no (d : D) (h : ∀ i : Nat, i < ps.length → d ≠ .int (i : Int)) (hd : (∃ a, d = .int a) ∨ d = .none ∨ ∃ b, d = .bool b) : q_need_point [chartD ps bs, d] = .error (.exc ("NoPoint" : Str) [(("name" : Str), d)] []) := by
  have e : q_is_within [d, .int 0, .int ((ps.length : Int) - 1)] = .ok (.bool false) := by
    rcases hd with ⟨a, rfl⟩ | rfl | ⟨b, rfl⟩
    · rw [within_int]
      congr 2
      refine decide_eq_false fun ⟨h1, h2⟩ => h a.toNat (by omega) ?_
      congr 1
      omega
    · unfold q_is_within q_is_integer
      simp [isT]
    · unfold q_is_within q_is_integer
      simp [isT]
  unfold q_need_point
  simp [chartD, e, qraise]
theorem two_go (hi : i < ps.length) (hj : j < ps.length) (ne : i ≠ j) : q_need_two [chartD ps [], .int (i : Int), .int (j : Int)] = .ok .none := by
  have e : ((i : Int) == (j : Int)) = false := by simp; omega
  unfold q_need_two
  simp [bare_go, point_go hi, point_go hj, e]
theorem box_zoomed_go (h : ps[i]? = some p) (hk : ks[i]? = some k) (hz : sm z = true) : q_box_zoomed [chartD ps [], .tuple (ks.map .int), .int (i : Int), .int z] = .ok (bxD (zb p k z)) := by
  unfold q_box_zoomed
  simp [bare_go, point_go (List.getElem?_eq_some_iff.mp h).1, zoomed_go h hk hz]
theorem heard_no (d : D) : qLam q__law_heard (.error (.exc ("NoPoint" : Str) [(("name" : Str), d)] [])) = .ok (.tuple [.str ("no point" : Str), d]) := by
  rfl
theorem heard_why (d : D) : qLam q__law_heard (.error (.exc ("Refused" : Str) [(("why" : Str), d)] [])) = .ok (.tuple [.str ("refused" : Str), d]) := by
  rfl
end
end L2.DL.k48

namespace L2.DL.k48
open PySem PySem.Spec PyProof.Rows
open L2.DL.Cm
/-- the two names, by their indexes -/
structure Two (ps : List Pt) (ks : List Int) (i : Nat) (p : Pt) (k : Int) : Prop where
  hp : ps[i]? = some p
  hk : ks[i]? = some k
  ok : PtOk 4 6 p
theorem two_of {ps : List Pt} {bs : List Bx} {ks : List Int} {i : Nat} (C : ChartOk 4 4 0 6 ps bs) (lay : IsLay ps ks) (h : i < ps.length) : ∃ p k, Two ps ks i p k := by
  refine ⟨ps[i], ks[i]'(by rw [lay.1]; exact h), List.getElem?_eq_getElem h, List.getElem?_eq_getElem _, C.pts _ (List.getElem_mem h)⟩
abbrev zs5 : List Int := [1, 2, 3, 40, 20000]
theorem turn_go {ps : List Pt} {ks : List Int} {i j : Nat} {p q : Pt} {k l : Int} (hi : Two ps ks i p k) (hj : Two ps ks j q l) (ne : i ≠ j) :
    In (bnd (qcall 4 q__law_parted (qcons (.ok (chartD ps [])) (qcons (.ok (.tuple (ks.map .int))) (qcons (.ok (.int (i : Int))) (qcons (.ok (.int (j : Int))) qnil))))) fun (due_39 : D) => (bnd (qofL (qcomp (fun its_41 => (.ok (.bool true))) (fun its_41 => (qcall 5 q__law_hit (qcons (.ok (chartD ps [])) (qcons (.ok (.tuple (ks.map .int))) (qcons (.ok (.int (i : Int))) (qcons (.ok (.int (j : Int))) (qcons (.ok its_41) qnil))))))) (qseq (qtup (qcons (.ok (.int 1)) (qcons (.ok (.int 2)) (qcons (.ok (.int 3)) (qcons (.ok (.int 40)) (qcons (.ok (.int 20000)) qnil))))))))) fun (hits_40 : D) => (qifs (qnot (qcall 2 q__law_alike (qcons (qofL (qlst (qcons (qcall 4 q_parted_at (qcons (.ok (chartD ps [])) (qcons (.ok (.tuple (ks.map .int))) (qcons (.ok (.int (i : Int))) (qcons (.ok (.int (j : Int))) qnil))))) (qcons (qofL (qcomp (fun its_42 => (.ok (.bool true))) (fun its_42 => (qcall 5 q_do_clash_at (qcons (.ok (chartD ps [])) (qcons (.ok (.tuple (ks.map .int))) (qcons (.ok (.int (i : Int))) (qcons (.ok (.int (j : Int))) (qcons (.ok its_42) qnil))))))) (qseq (qtup (qcons (.ok (.int 1)) (qcons (.ok (.int 2)) (qcons (.ok (.int 3)) (qcons (.ok (.int 40)) (qcons (.ok (.int 20000)) qnil))))))))) qnil)))) (qcons (qofL (qlst (qcons (.ok due_39) (qcons (.ok hits_40) qnil)))) qnil)))) (bnd (.ok (.bool false)) fun d_43 => .ok (Cn.rt d_43)) (qifs (qor (qcmp neD (.ok hits_40) (q1 revD (qofL (qv sortS (qview (.ok hits_40)))))) (qand (qcmp (isD false) (.ok due_39) (.ok .none)) (qcmp (inD false) (.ok (.bool false)) (.ok hits_40)))) (bnd (.ok (.bool false)) fun d_44 => .ok (Cn.rt d_44)) (.ok (Cn.nx ()))))))
      (fun r => ∃ s' : Unit, r = .nx s' ∧ True) := by
  obtain ⟨d, h1, h2⟩ := law_parted_go (bs := []) hi.ok hj.ok hi.hp hi.hk hj.hp hj.hk
  obtain ⟨d', h3, h4⟩ := parting_go (bs := []) hi.ok hj.ok hi.hp hi.hk hj.hp hj.hk
  have ed := partAt_uniq h4 h2
  subst ed
  have two := two_go (List.getElem?_eq_some_iff.mp hi.hp).1 (List.getElem?_eq_some_iff.mp hj.hp).1 ne
  have ez : ∀ z ∈ zs5, sm z = true := by decide
  have e5 : qseq (qtup (qcons (.ok (.int 1)) (qcons (.ok (.int 2)) (qcons (.ok (.int 3)) (qcons (.ok (.int 40)) (qcons (.ok (.int 20000)) qnil)))))) = .ok (zs5.map .int) := by simp
  refine In.bnd (a := d') (by simp [h1]) ?_
  have eh : qcomp (fun its_41 => (.ok (.bool true))) (fun its_41 => (qcall 5 q__law_hit (qcons (.ok (chartD ps [])) (qcons (.ok (.tuple (ks.map .int))) (qcons (.ok (.int (i : Int))) (qcons (.ok (.int (j : Int))) (qcons (.ok its_41) qnil))))))) (qseq (qtup (qcons (.ok (.int 1)) (qcons (.ok (.int 2)) (qcons (.ok (.int 3)) (qcons (.ok (.int 40)) (qcons (.ok (.int 20000)) qnil))))))) = .ok (zs5.map fun z => .bool (hz p k q l z)) := by
    rw [e5]
    exact mapQ (by simp) fun z hz => by simp [law_hit_go hi.ok hj.ok hi.hp hi.hk hj.hp hj.hk (ez z hz), k48.hz]
  have ec : qcomp (fun its_42 => (.ok (.bool true))) (fun its_42 => (qcall 5 q_do_clash_at (qcons (.ok (chartD ps [])) (qcons (.ok (.tuple (ks.map .int))) (qcons (.ok (.int (i : Int))) (qcons (.ok (.int (j : Int))) (qcons (.ok its_42) qnil))))))) (qseq (qtup (qcons (.ok (.int 1)) (qcons (.ok (.int 2)) (qcons (.ok (.int 3)) (qcons (.ok (.int 40)) (qcons (.ok (.int 20000)) qnil))))))) = .ok (zs5.map fun z => .bool (hz p k q l z)) := by
    rw [e5]
    refine mapQ (by simp) fun z hz => ?_
    unfold q_do_clash_at
    simp [two, way_go hi.hp hi.hk hj.hp hj.hk (ez z hz), k48.hz]
  have ep : q_parted_at [chartD ps [], .tuple (ks.map .int), .int (i : Int), .int (j : Int)] = .ok d' := by
    unfold q_parted_at
    simp [two, h3]
  rw [eh]
  refine In.bnd (a := .list (zs5.map fun z => .bool (hz p k q l z))) (by simp) ?_
  rw [ec]
  have okd : okD d' = true ∧ sz d' = 1 := by cases h2 <;> exact ⟨rfl, rfl⟩
  have al : q__law_alike [.list [d', .list (zs5.map fun z => .bool (hz p k q l z))], .list [d', .list (zs5.map fun z => .bool (hz p k q l z))]] = .ok (.bool true) := by
    refine alike_go ?_ ?_
    · simp [okD, okL, okd.1]
    · simp [sz, szL, okd.2]
  have step1 : ∀ L : List D, q__law_alike [.list [d', .list L], .list [d', .list L]] = .ok (.bool true) → qnot (qcall 2 q__law_alike (qcons (qofL (qlst (qcons (qcall 4 q_parted_at (qcons (.ok (chartD ps [])) (qcons (.ok (.tuple (ks.map .int))) (qcons (.ok (.int (i : Int))) (qcons (.ok (.int (j : Int))) qnil))))) (qcons (qofL (.ok L)) qnil)))) (qcons (qofL (qlst (qcons (.ok d') (qcons (.ok (.list L)) qnil)))) qnil))) = .ok (.bool false) := fun L hL => by simp [ep, hL]
  refine In.bnd (a := .bool false) (step1 _ al) ?_
  rw [qsel_f]
  have mono : ∀ z w : Int, 1 ≤ z → z ≤ w → hz p k q l w = true → hz p k q l z = true := fun z w h1 h2 h3 => hit_mono hi.ok hj.ok h1 h2 h3
  have dn : (zs5.map fun z => hz p k q l z).Pairwise fun a b => b = true → a = true := by
    refine List.pairwise_map.mpr ?_
    have : zs5.Pairwise fun a b => 1 ≤ a ∧ a ≤ b := by decide
    exact this.imp fun {a b} h => mono a b h.1 h.2
  have es : sortS (false, zs5.map fun z => .bool (hz p k q l z)) = .ok ((zs5.map fun z => hz p k q l z).reverse.map .bool) := by
    have := sortS_bool (bs := zs5.map fun z => hz p k q l z) (by simp)
    rw [sort_down dn, List.map_map] at this
    exact this
  have er : ((zs5.map fun z => hz p k q l z).reverse.map PyData.bool).reverse = zs5.map fun z => .bool (hz p k q l z) := by
    rw [← List.map_reverse, List.reverse_reverse, List.map_map]
    rfl
  have en : neD (.list (zs5.map fun z => .bool (hz p k q l z))) (.list (zs5.map fun z => .bool (hz p k q l z))) = .ok false := by
    have key : ∀ a b c d e : Bool, neD (.list [.bool a, .bool b, .bool c, .bool d, .bool e]) (.list [.bool a, .bool b, .bool c, .bool d, .bool e]) = .ok false := fun a b c d e => by cases a <;> cases b <;> cases c <;> cases d <;> cases e <;> rfl
    exact key _ _ _ _ _
  refine In.bnd (a := .bool false) ?_ (by rw [qsel_f]; exact In.ok ⟨(), rfl, trivial⟩)
  have e1 : qcmp neD (.ok (.list (zs5.map fun z => .bool (hz p k q l z)))) (q1 revD (qofL (qv sortS (qview (.ok (.list (zs5.map fun z => .bool (hz p k q l z)))))))) = .ok (.bool false) := by
    simp only [qcmp, q1, qofL, qv, qview, bnd_ok, seqD_l, pur_ok, es, revD, er, en, qb]
  simp only [qor, e1, bnd_ok, qsel_f]
  cases h2 with
  | never a =>
    have : ∀ z ∈ zs5, hz p k q l z = true := fun z hz => a z (by revert z; decide) (by revert z; decide)
    have ei : inD false (.bool false) (.list [.bool true, .bool true, .bool true, .bool true, .bool true]) = .ok false := by rfl
    simp [isD, isNone, this 1 (by simp), this 2 (by simp), this 3 (by simp), this 40 (by simp), this 20000 (by simp), ei]
  | «at» m _ _ _ _ => simp [isD, isNone]
end L2.DL.k48

namespace L2.DL.k48
open PySem PySem.Spec PyProof.Rows
open L2.DL.Cm
theorem zoom_go {xs : List D} (B : Bg xs) : ∃ z xs', q__law_some xs [.list [.int 1, .int 2, .int 3, .int 7, .int 20000]] = .ok (.int z, xs') ∧ Bg xs' ∧ sm z = true := by
  obtain ⟨d, xs', h1, h2, h3⟩ := some_go (ds := [.int 1, .int 2, .int 3, .int 7, .int 20000]) B (by simp) (by simp) false
  simp at h1
  simp at h3
  rcases h3 with rfl | rfl | rfl | rfl | rfl
  · exact ⟨1, xs', h1, h2, by decide⟩
  · exact ⟨2, xs', h1, h2, by decide⟩
  · exact ⟨3, xs', h1, h2, by decide⟩
  · exact ⟨7, xs', h1, h2, by decide⟩
  · exact ⟨20000, xs', h1, h2, by decide⟩
section
variable {ps : List Pt} {ks : List Int}
/-- what is told of wrong names -/
theorem told1 (L : D) (n : Nat) (e : n = ps.length) : q_box_zoomed [chartD ps [], L, .int (n : Int), .int 1] = .error (.exc ("NoPoint" : Str) [(("name" : Str), .int (n : Int))] []) := by
  unfold q_box_zoomed
  have := point_no (ps := ps) (bs := []) (.int (n : Int)) (fun i hi e => by cases e; omega) (.inl ⟨_, rfl⟩)
  simp [bare_go, this]
theorem told2 (L : D) (h : 0 < ps.length) : q_parted_at [chartD ps [], L, .int 0, .none] = .error (.exc ("NoPoint" : Str) [(("name" : Str), .none)] []) := by
  unfold q_parted_at q_need_two
  have := point_no (ps := ps) (bs := []) .none (fun i hi e => by cases e) (.inr (.inl rfl))
  have p0 : q_need_point [chartD ps [], .int 0] = .ok .none := point_go (i := 0) h
  simp [bare_go, this, p0]
theorem told3 (L : D) : q_parted_at [chartD ps [], L, .bool true, .int 0] = .error (.exc ("NoPoint" : Str) [(("name" : Str), .bool true)] []) := by
  unfold q_parted_at q_need_two
  have := point_no (ps := ps) (bs := []) (.bool true) (fun i hi e => by cases e) (.inr (.inr ⟨_, rfl⟩))
  simp [bare_go, this]
theorem told4 (L : D) (h : 0 < ps.length) : q_do_clash_at [chartD ps [], L, .int 0, .int 0, .int 1] = .error (.exc ("Refused" : Str) [(("why" : Str), .str ("same" : Str))] []) := by
  unfold q_do_clash_at q_need_two
  have p0 : q_need_point [chartD ps [], .int 0] = .ok .none := point_go (i := 0) h
  simp [bare_go, p0, qraise]
theorem told5 (L d : D) (b : Bx) (r : List Bx) : q_box_zoomed [chartD ps (b :: r), L, d, .int 1] = .error (.exc ("Refused" : Str) [(("why" : Str), .str ("bars" : Str))] []) := by
  unfold q_box_zoomed
  simp [bare_no]
theorem told6 (L d e : D) (b : Bx) (r : List Bx) : q_parted_at [chartD ps (b :: r), L, d, e] = .error (.exc ("Refused" : Str) [(("why" : Str), .str ("bars" : Str))] []) := by
  unfold q_parted_at q_need_two
  simp [bare_no]
end
theorem law_go : ∀ ns : List Int, ns.length ≤ 63 → q_law [.list (ns.map .int)] = .ok (.bool true) := by
  intro ns _
  refine In.eq ?_
  obtain ⟨bag, hbag, B0⟩ := bag_go (ns := ns)
  unfold q_law
  simp only [m1]
  refine In.bnd (a := bag) (by simp [hbag]) ?_
  refine In.bnd (a := rngD 0 8) (by simp [rng1, rgOk]) ?_
  refine In.seq (In.for Bg B0 ?_) ?_
  · intro d zs Z _
    obtain ⟨ps, bs, z1, c1, Z1, C⟩ := chart_go Z (points := 4) (most := 4) (bars := 0) (room := 6) (by omega) (by omega) (by omega) (by omega) (by omega) (by omega) (by omega) (by omega)
    have hb : bs = [] := List.eq_nil_of_length_eq_zero (by have := C.m1; omega)
    subst hb
    obtain ⟨ks, z2, c2, Z2, lay⟩ := layout_go Z1 (by omega) C
    obtain ⟨zoom, z3, c3, Z3, hzm⟩ := zoom_go Z2
    have n0 := C.n0
    have n2 := C.n2
    unfold setX
    refine In.bnd (a := (chartD ps [], z1)) (by simp [c1]) ?_
    unfold par2X
    refine In.bnd c2 ?_
    refine In.bnd (a := (.int (ps.length : Int), z2)) (by simp [chartD]) ?_
    dsimp only
    refine In.bnd (a := (.int zoom, z3)) (by simp [c3]) ?_
    dsimp only
    have er : qrng1 (.ok (.int (ps.length : Int))) = .ok ((List.range ps.length).map fun (i : Nat) => PyData.int (i : Int)) := by
      simp [rng1_nat (show ps.length ≤ 1000000 by omega)]
    have pk : ∀ i : Nat, i < ps.length → ∃ p k, Two ps ks i p k := fun i hi => two_of C lay hi
    -- the boxes
    obtain ⟨φ, hφ⟩ : ∃ φ : Nat → Bx, ∀ i : Nat, i < ps.length → q_box_zoomed [chartD ps [], .tuple (ks.map .int), .int (i : Int), .int zoom] = .ok (bxD (φ i)) ∧ q__law_zoomed [chartD ps [], .tuple (ks.map .int), .int (i : Int), .int zoom] = .ok (bxD (φ i)) := by
      refine ⟨fun i => if h : i < ps.length then zb ps[i] (ks[i]'(by rw [lay.1]; exact h)) zoom else ⟨0, 0, 0, 0⟩, fun i hi => ?_⟩
      simp only [dif_pos hi]
      have e1 : ps[i]? = some ps[i] := List.getElem?_eq_getElem hi
      have e2 : ks[i]? = some (ks[i]'(by rw [lay.1]; exact hi)) := List.getElem?_eq_getElem _
      exact ⟨box_zoomed_go e1 e2 hzm, law_zoomed_go e1 e2 hzm⟩
    have b1 : qcomp (fun point_25 => (.ok (.bool true))) (fun point_25 => (qcall 4 q_box_zoomed (qcons (.ok (chartD ps [])) (qcons (.ok (.tuple (ks.map .int))) (qcons (.ok point_25) (qcons (.ok (.int zoom)) qnil)))))) (qrng1 (.ok (.int (ps.length : Int)))) = .ok ((List.range ps.length).map fun i => bxD (φ i)) := by
      rw [er]
      exact mapQ (by simp; omega) fun i hi => by simp [(hφ i (List.mem_range.mp hi)).1]
    have b2 : qcomp (fun point_26 => (.ok (.bool true))) (fun point_26 => (qcall 4 q__law_zoomed (qcons (.ok (chartD ps [])) (qcons (.ok (.tuple (ks.map .int))) (qcons (.ok point_26) (qcons (.ok (.int zoom)) qnil)))))) (qrng1 (.ok (.int (ps.length : Int)))) = .ok ((List.range ps.length).map fun i => bxD (φ i)) := by
      rw [er]
      exact mapQ (by simp; omega) fun i hi => by simp [(hφ i (List.mem_range.mp hi)).2]
    have al : q__law_alike [.list ((List.range ps.length).map fun i => bxD (φ i)), .list ((List.range ps.length).map fun i => bxD (φ i))] = .ok (.bool true) := by
      refine alike_go ?_ ?_
      · simp only [okD]
        exact okL_map (fun i => rfl) _
      · have := szL_map (f := fun i => bxD (φ i)) (c := 6) (fun i => by simp [bxD, sz, szL]) (List.range ps.length)
        simp only [List.length_range] at this
        simp only [sz]
        omega
    refine In.bnd (a := .bool false) ?_ ?_
    · rw [b1, b2]
      simp only [qofL, qnot, qcall, qcons, qnil, bnd_ok, List.length_cons, List.length_nil, if_true, al, qsel_t]
    rw [qsel_f, er]
    refine In.bnd rfl ?_
    refine In.seq (In.for (fun _ : Unit => True) trivial ?_) ?_
    · intro d1 _ _ hd1
      obtain ⟨i, hi, rfl⟩ := List.mem_map.mp hd1
      have hi := List.mem_range.mp hi
      obtain ⟨p, k, Ti⟩ := pk i hi
      have eo : qseq (qofL (qcomp (fun its_36 => (qcmp neD (.ok its_36) (.ok (.int (i : Int))))) (fun its_36 => (.ok its_36)) (.ok ((List.range ps.length).map fun (i : Nat) => PyData.int (i : Int))))) = .ok (((List.range ps.length).filter fun j => decide (j ≠ i)).map fun (j : Nat) => PyData.int (j : Int)) := by
        rw [filQ (π := fun j => decide (j ≠ i)) (φ := fun (j : Nat) => PyData.int (j : Int)) (by simp; omega) (fun j _ => by
          by_cases h : j = i
          · subst h; simp
          · have : ¬ ((j : Int) = (i : Int)) := by omega
            simp [h, this]) fun j _ _ => rfl]
        simp
      refine In.bnd eo ?_
      refine In.seq (In.for (fun _ : Unit => True) trivial ?_) ?_
      · intro d2 _ _ hd2
        obtain ⟨j, hj, rfl⟩ := List.mem_map.mp hd2
        obtain ⟨hj1, hj2⟩ := List.mem_filter.mp hj
        obtain ⟨q, l, Tj⟩ := pk j (List.mem_range.mp hj1)
        exact turn_go Ti Tj (fun e => by simp [e] at hj2)
      · rintro r ⟨_, rfl, _⟩
        exact In.ok ⟨(), rfl, trivial⟩
    · rintro r ⟨_, rfl, _⟩
      simp only [qCn]
      have hp : 0 < ps.length := by omega
      refine In.bnd (a := [.tuple [.str ("no point" : Str), .int (ps.length : Int)]]) ?_ ?_
      · simp [told1 (ps := ps) _ ps.length rfl, heard_no]
      refine In.bnd (a := .tuple [.str ("no point" : Str), .none]) (by simp [told2 _ hp, heard_no]) ?_
      refine In.bnd (a := [.tuple [.str ("no point" : Str), .int (ps.length : Int)], .tuple [.str ("no point" : Str), .none]]) rfl ?_
      refine In.bnd (a := .tuple [.str ("no point" : Str), .bool true]) (by simp [told3, heard_no]) ?_
      refine In.bnd (a := [.tuple [.str ("no point" : Str), .int (ps.length : Int)], .tuple [.str ("no point" : Str), .none], .tuple [.str ("no point" : Str), .bool true]]) rfl ?_
      refine In.bnd (a := .tuple [.str ("refused" : Str), .str ("same" : Str)]) (by simp [told4 _ hp, heard_why]) ?_
      refine In.bnd (a := [.tuple [.str ("no point" : Str), .int (ps.length : Int)], .tuple [.str ("no point" : Str), .none], .tuple [.str ("no point" : Str), .bool true], .tuple [.str ("refused" : Str), .str ("same" : Str)]]) rfl ?_
      have al2 : q__law_alike [.list [.tuple [.str ("no point" : Str), .int (ps.length : Int)], .tuple [.str ("no point" : Str), .none], .tuple [.str ("no point" : Str), .bool true], .tuple [.str ("refused" : Str), .str ("same" : Str)]], .list [.tuple [.str ("no point" : Str), .int (ps.length : Int)], .tuple [.str ("no point" : Str), .none], .tuple [.str ("no point" : Str), .bool true], .tuple [.str ("refused" : Str), .str ("same" : Str)]]] = .ok (.bool true) := alike_go (by rfl) (by simp [sz, szL])
      refine In.bnd (a := .bool false) (by simp [al2]) ?_
      rw [qsel_f]
      refine In.bnd (a := chartD ps [⟨0, 0, 1, 1⟩]) (by simp [chartD, bxD]) ?_
      refine In.bnd (a := [.tuple [.str ("refused" : Str), .str ("bars" : Str)]]) (by simp [told5, heard_why]) ?_
      refine In.bnd (a := .tuple [.str ("refused" : Str), .str ("bars" : Str)]) (by simp [told6, heard_why]) ?_
      refine In.bnd (a := [.tuple [.str ("refused" : Str), .str ("bars" : Str)], .tuple [.str ("refused" : Str), .str ("bars" : Str)]]) rfl ?_
      have al3 : q__law_alike [.list [.tuple [.str ("refused" : Str), .str ("bars" : Str)], .tuple [.str ("refused" : Str), .str ("bars" : Str)]], .list [.tuple [.str ("refused" : Str), .str ("bars" : Str)], .tuple [.str ("refused" : Str), .str ("bars" : Str)]]] = .ok (.bool true) := alike_go (by rfl) (by simp [sz, szL])
      have mm : mulD (.list [.tuple [.str ("refused" : Str), .str ("bars" : Str)]]) (.int 2) = .ok (.list [.tuple [.str ("refused" : Str), .str ("bars" : Str)], .tuple [.str ("refused" : Str), .str ("bars" : Str)]]) := rfl
      refine In.bnd (a := .bool false) (by simp [al3, mm]) ?_
      rw [qsel_f]
      exact In.ok ⟨_, rfl, Z3⟩
  · rintro r ⟨s', rfl, _⟩
    exact In.ok rfl
end L2.DL.k48

namespace L2.DL.k48
open PySem PySem.Spec PyProof.Rows
open L2.DL.Cm
theorem all_mk {l : PySem.W.OpenLaw} {w : World} {K : PySem.W.Frag} {h : Heap} {mg : Str → Option Value} {fa : Addr} (X : K.In h) (G : h.Ns mainGlobals mg) (hfa : mg "law" = some (.ref fa))
    (D__law_bag : Def K ("_law_bag" : Str) (top 23)) (D__law_take : Def K ("_law_take" : Str) (top 24)) (D__law_mixed : Def K ("_law_mixed" : Str) (top 26)) (D__law_names : Def K ("_law_names" : Str) (top 29)) (D__law_stands : Def K ("_law_stands" : Str) (top 30)) (D__law_chart : Def K ("_law_chart" : Str) (top 31)) (D__law_some : Def K ("_law_some" : Str) (top 25)) (D__law_alike : Def K ("_law_alike" : Str) (top 27)) (D__law_heard : Def K ("_law_heard" : Str) (top 32)) (D__law_meet : Def K ("_law_meet" : Str) (top 28)) (D__law_zoomed : Def K ("_law_zoomed" : Str) (top 33)) (D__law_hit : Def K ("_law_hit" : Str) (top 34)) (D__law_parted : Def K ("_law_parted" : Str) (top 35)) (D_need_bare : Def K ("need_bare" : Str) (top 13)) (D_is_integer : Def K ("is_integer" : Str) (top 9)) (D_is_within : Def K ("is_within" : Str) (top 10)) (D_need_point : Def K ("need_point" : Str) (top 14)) (D_box_at : Def K ("box_at" : Str) (top 2)) (D_zoomed : Def K ("zoomed" : Str) (top 16)) (D_box_zoomed : Def K ("box_zoomed" : Str) (top 17)) (D_need_two : Def K ("need_two" : Str) (top 15)) (D_do_clash : Def K ("do_clash" : Str) (top 3)) (D_are_in_the_way : Def K ("are_in_the_way" : Str) (top 18)) (D_parting : Def K ("parting" : Str) (top 20)) (D_parted_at : Def K ("parted_at" : Str) (top 21)) (D_do_clash_at : Def K ("do_clash_at" : Str) (top 19)) (D_law : Def K ("law" : Str) (top 36)) (z_len : PySem.W.nsIn K mainGlobals "len" = some none) (z_abs : PySem.W.nsIn K mainGlobals "abs" = some none) (z_int : PySem.W.nsIn K mainGlobals "int" = some none) (z_max : PySem.W.nsIn K mainGlobals "max" = some none) (z_min : PySem.W.nsIn K mainGlobals "min" = some none) (z_tuple : PySem.W.nsIn K mainGlobals "tuple" = some none) (z_list : PySem.W.nsIn K mainGlobals "list" = some none) (z_sorted : PySem.W.nsIn K mainGlobals "sorted" = some none) (z_isinstance : PySem.W.nsIn K mainGlobals "isinstance" = some none) (z_range : PySem.W.nsIn K mainGlobals "range" = some none) (z_zip : PySem.W.nsIn K mainGlobals "zip" = some none) (z_str : PySem.W.nsIn K mainGlobals "str" = some none) (z_bool : PySem.W.nsIn K mainGlobals "bool" = some none) (zg_MOST_ZOOM : GlobK K ("MOST_ZOOM" : Str) (.int 20000)) (zc_NoPoint : CatchK K ("NoPoint" : Str) [(("NamesError" : Str), false), (("NoPoint" : Str), true), (("Refused" : Str), false)]) (zc_Refused : CatchK K ("Refused" : Str) [(("NamesError" : Str), false), (("NoPoint" : Str), false), (("Refused" : Str), true)]) (zf_name : FldX K ("name" : Str) [("NoPoint" : Str)]) (zf_why : FldX K ("why" : Str) [("Refused" : Str)]) (zx_NoPoint : XFacts l.prog K ("NoPoint" : Str) (inSt (top 6)) [("name" : Str)]) (zx_Refused : XFacts l.prog K ("Refused" : Str) (inSt (top 7)) [("why" : Str)]) {c0 P0 : Addr} (hti : PySem.W.tabIn K "law" = some (c0, P0)) :
    ∀ base : Heap, K.In base → base.Ns mainGlobals mg → (∀ p ∈ (tabs K), LamX.TabB base mg p.1 p.2) → LawRun l.prog w K mg base fa (tabs K) := by
  obtain ⟨f__law_bag, fd__law_bag, a__law_bag, F__law_bag⟩ := D__law_bag.ex
  obtain ⟨f__law_take, fd__law_take, a__law_take, F__law_take⟩ := D__law_take.ex
  obtain ⟨f__law_mixed, fd__law_mixed, a__law_mixed, F__law_mixed⟩ := D__law_mixed.ex
  obtain ⟨f__law_names, fd__law_names, a__law_names, F__law_names⟩ := D__law_names.ex
  obtain ⟨f__law_stands, fd__law_stands, a__law_stands, F__law_stands⟩ := D__law_stands.ex
  obtain ⟨f__law_chart, fd__law_chart, a__law_chart, F__law_chart⟩ := D__law_chart.ex
  obtain ⟨f__law_some, fd__law_some, a__law_some, F__law_some⟩ := D__law_some.ex
  obtain ⟨f__law_alike, fd__law_alike, a__law_alike, F__law_alike⟩ := D__law_alike.ex
  obtain ⟨f__law_heard, fd__law_heard, a__law_heard, F__law_heard⟩ := D__law_heard.ex
  obtain ⟨f__law_meet, fd__law_meet, a__law_meet, F__law_meet⟩ := D__law_meet.ex
  obtain ⟨f__law_zoomed, fd__law_zoomed, a__law_zoomed, F__law_zoomed⟩ := D__law_zoomed.ex
  obtain ⟨f__law_hit, fd__law_hit, a__law_hit, F__law_hit⟩ := D__law_hit.ex
  obtain ⟨f__law_parted, fd__law_parted, a__law_parted, F__law_parted⟩ := D__law_parted.ex
  obtain ⟨f_need_bare, fd_need_bare, a_need_bare, F_need_bare⟩ := D_need_bare.ex
  obtain ⟨f_is_integer, fd_is_integer, a_is_integer, F_is_integer⟩ := D_is_integer.ex
  obtain ⟨f_is_within, fd_is_within, a_is_within, F_is_within⟩ := D_is_within.ex
  obtain ⟨f_need_point, fd_need_point, a_need_point, F_need_point⟩ := D_need_point.ex
  obtain ⟨f_box_at, fd_box_at, a_box_at, F_box_at⟩ := D_box_at.ex
  obtain ⟨f_zoomed, fd_zoomed, a_zoomed, F_zoomed⟩ := D_zoomed.ex
  obtain ⟨f_box_zoomed, fd_box_zoomed, a_box_zoomed, F_box_zoomed⟩ := D_box_zoomed.ex
  obtain ⟨f_need_two, fd_need_two, a_need_two, F_need_two⟩ := D_need_two.ex
  obtain ⟨f_do_clash, fd_do_clash, a_do_clash, F_do_clash⟩ := D_do_clash.ex
  obtain ⟨f_are_in_the_way, fd_are_in_the_way, a_are_in_the_way, F_are_in_the_way⟩ := D_are_in_the_way.ex
  obtain ⟨f_parting, fd_parting, a_parting, F_parting⟩ := D_parting.ex
  obtain ⟨f_parted_at, fd_parted_at, a_parted_at, F_parted_at⟩ := D_parted_at.ex
  obtain ⟨f_do_clash_at, fd_do_clash_at, a_do_clash_at, F_do_clash_at⟩ := D_do_clash_at.ex
  obtain ⟨f_law, fd_law, a_law, F_law⟩ := D_law.ex
  have nb : Nb K mg := ⟨PySem.W.mg_none_of X G z_len, PySem.W.mg_none_of X G z_abs, PySem.W.mg_none_of X G z_int, PySem.W.mg_none_of X G z_max, PySem.W.mg_none_of X G z_min, PySem.W.mg_none_of X G z_tuple, PySem.W.mg_none_of X G z_list, PySem.W.mg_none_of X G z_sorted, PySem.W.mg_none_of X G z_isinstance, PySem.W.mg_none_of X G z_range, PySem.W.mg_none_of X G z_zip, PySem.W.mg_none_of X G z_str, PySem.W.mg_none_of X G z_bool, zg_MOST_ZOOM.to X G, zc_NoPoint.to X G, zc_Refused.to X G, zf_name, zf_why⟩
  have e := hfa.symm.trans (PySem.W.mg_of X G a_law)
  cases e
  intro base KB GB hTb
  rw [tabs_of hti] at hTb ⊢
  have X_NoPoint : HasX l.prog w K mg base 1 ("NoPoint" : Str) [("name" : Str)] := zx_NoPoint.has1 (fun C hC => PySem.W.mg_of X G hC) rfl ⟨rfl, rfl, rfl, by decide +kernel, by decide +kernel, by decide +kernel, fun y hy => isc_free (by decide +kernel) y hy, rfl, rfl⟩ rfl (fun _ _ _ _ _ _ _ _ us hl => match us, hl with | [_, _], _ => rfl) (fun _ _ _ _ _ => ⟨_, rfl⟩)
  have X_Refused : HasX l.prog w K mg base 1 ("Refused" : Str) [("why" : Str)] := zx_Refused.has1 (fun C hC => PySem.W.mg_of X G hC) rfl ⟨rfl, rfl, rfl, by decide +kernel, by decide +kernel, by decide +kernel, fun y hy => isc_free (by decide +kernel) y hy, rfl, rfl⟩ rfl (fun _ _ _ _ _ _ _ _ us hl => match us, hl with | [_, _], _ => rfl) (fun _ _ _ _ _ => ⟨_, rfl⟩)
  have H__law_bag : Has l.prog w K mg base 1 ("_law_bag" : Str) (spL K 1 q__law_bag) := Has.mk' (PySem.W.mg_of X G a__law_bag) F__law_bag (F__law_bag.binds (ps := [("script" : Str)]) fun _ _ _ _ _ _ us hl => match us, hl with | [_], _ => rfl) (h__law_bag nb F__law_bag)
  have H__law_take : Has l.prog w K mg base 1 ("_law_take" : Str) (spB K 2 q__law_take) := Has.mk' (PySem.W.mg_of X G a__law_take) F__law_take (F__law_take.binds (ps := [("bag" : Str), ("many" : Str)]) fun _ _ _ _ _ _ us hl => match us, hl with | [_, _], _ => rfl) (h__law_take nb F__law_take)
  have H__law_mixed : Has l.prog w K mg base 2 ("_law_mixed" : Str) (spB K 2 q__law_mixed) := Has.mk' (PySem.W.mg_of X G a__law_mixed) F__law_mixed (F__law_mixed.binds (ps := [("bag" : Str), ("things" : Str)]) fun _ _ _ _ _ _ us hl => match us, hl with | [_, _], _ => rfl) (h__law_mixed nb F__law_mixed H__law_take)
  have H__law_names : Has l.prog w K mg base 3 ("_law_names" : Str) (spB K 2 q__law_names) := Has.mk' (PySem.W.mg_of X G a__law_names) F__law_names (F__law_names.binds (ps := [("bag" : Str), ("many" : Str)]) fun _ _ _ _ _ _ us hl => match us, hl with | [_, _], _ => rfl) (h__law_names nb F__law_names H__law_mixed)
  have H__law_stands : Has l.prog w K mg base 3 ("_law_stands" : Str) (spB K 2 q__law_stands) := Has.mk' (PySem.W.mg_of X G a__law_stands) F__law_stands (F__law_stands.binds (ps := [("bag" : Str), ("most" : Str)]) fun _ _ _ _ _ _ us hl => match us, hl with | [_, _], _ => rfl) (h__law_stands nb F__law_stands H__law_take H__law_mixed)
  have H__law_chart : Has l.prog w K mg base 4 ("_law_chart" : Str) (spB K 5 q__law_chart) := Has.mk' (PySem.W.mg_of X G a__law_chart) F__law_chart (F__law_chart.binds (ps := [("bag" : Str), ("points" : Str), ("most" : Str), ("bars" : Str), ("room" : Str)]) fun _ _ _ _ _ _ us hl => match us, hl with | [_, _, _, _, _], _ => rfl) (h__law_chart nb F__law_chart H__law_take H__law_names H__law_stands)
  have H__law_some : Has l.prog w K mg base 2 ("_law_some" : Str) (spB K 2 q__law_some) := Has.mk' (PySem.W.mg_of X G a__law_some) F__law_some (F__law_some.binds (ps := [("bag" : Str), ("things" : Str)]) fun _ _ _ _ _ _ us hl => match us, hl with | [_, _], _ => rfl) (h__law_some nb F__law_some H__law_take)
  have H__law_alike : Has l.prog w K mg base 1 ("_law_alike" : Str) (spP K 2 q__law_alike) := Has.mk' (PySem.W.mg_of X G a__law_alike) F__law_alike (F__law_alike.binds (ps := [("found" : Str), ("due" : Str)]) fun _ _ _ _ _ _ us hl => match us, hl with | [_, _], _ => rfl) (h__law_alike nb F__law_alike)
  have HH__law_heard : HelpH K mg ("_law_heard" : Str) (top 32) ("act" : Str) := ⟨⟨f__law_heard, fd__law_heard, PySem.W.mg_of X G a__law_heard, F__law_heard, (F__law_heard.binds (ps := [("act" : Str)]) fun _ _ _ _ _ _ us hl => match us, hl with | [_], _ => rfl)⟩⟩
  have H__law_meet : Has l.prog w K mg base 1 ("_law_meet" : Str) (spP K 2 q__law_meet) := Has.mk' (PySem.W.mg_of X G a__law_meet) F__law_meet (F__law_meet.binds (ps := [("one" : Str), ("other" : Str)]) fun _ _ _ _ _ _ us hl => match us, hl with | [_, _], _ => rfl) (h__law_meet nb F__law_meet)
  have H__law_zoomed : Has l.prog w K mg base 1 ("_law_zoomed" : Str) (spP K 4 q__law_zoomed) := Has.mk' (PySem.W.mg_of X G a__law_zoomed) F__law_zoomed (F__law_zoomed.binds (ps := [("chart" : Str), ("layout" : Str), ("point" : Str), ("zoom" : Str)]) fun _ _ _ _ _ _ us hl => match us, hl with | [_, _, _, _], _ => rfl) (h__law_zoomed nb F__law_zoomed)
  have H__law_hit : Has l.prog w K mg base 2 ("_law_hit" : Str) (spP K 5 q__law_hit) := Has.mk' (PySem.W.mg_of X G a__law_hit) F__law_hit (F__law_hit.binds (ps := [("chart" : Str), ("layout" : Str), ("one" : Str), ("other" : Str), ("zoom" : Str)]) fun _ _ _ _ _ _ us hl => match us, hl with | [_, _, _, _, _], _ => rfl) (h__law_hit nb F__law_hit H__law_meet H__law_zoomed)
  have H__law_parted : Has l.prog w K mg base 3 ("_law_parted" : Str) (spP K 4 q__law_parted) := Has.mk' (PySem.W.mg_of X G a__law_parted) F__law_parted (F__law_parted.binds (ps := [("chart" : Str), ("layout" : Str), ("one" : Str), ("other" : Str)]) fun _ _ _ _ _ _ us hl => match us, hl with | [_, _, _, _], _ => rfl) (h__law_parted nb F__law_parted H__law_hit)
  have H_need_bare : Has l.prog w K mg base 3 ("need_bare" : Str) (spP K 1 q_need_bare) := Has.mk' (PySem.W.mg_of X G a_need_bare) F_need_bare (F_need_bare.binds (ps := [("chart" : Str)]) fun _ _ _ _ _ _ us hl => match us, hl with | [_], _ => rfl) (h_need_bare nb F_need_bare X_Refused)
  have H_is_integer : Has l.prog w K mg base 1 ("is_integer" : Str) (spP K 1 q_is_integer) := Has.mk' (PySem.W.mg_of X G a_is_integer) F_is_integer (F_is_integer.binds (ps := [("thing" : Str)]) fun _ _ _ _ _ _ us hl => match us, hl with | [_], _ => rfl) (h_is_integer nb F_is_integer)
  have H_is_within : Has l.prog w K mg base 2 ("is_within" : Str) (spP K 3 q_is_within) := Has.mk' (PySem.W.mg_of X G a_is_within) F_is_within (F_is_within.binds (ps := [("thing" : Str), ("least" : Str), ("most" : Str)]) fun _ _ _ _ _ _ us hl => match us, hl with | [_, _, _], _ => rfl) (h_is_within nb F_is_within H_is_integer)
  have H_need_point : Has l.prog w K mg base 3 ("need_point" : Str) (spP K 2 q_need_point) := Has.mk' (PySem.W.mg_of X G a_need_point) F_need_point (F_need_point.binds (ps := [("chart" : Str), ("point" : Str)]) fun _ _ _ _ _ _ us hl => match us, hl with | [_, _], _ => rfl) (h_need_point nb F_need_point H_is_within X_NoPoint)
  have H_box_at : Has l.prog w K mg base 1 ("box_at" : Str) (spP K 5 q_box_at) := Has.mk' (PySem.W.mg_of X G a_box_at) F_box_at (F_box_at.binds (ps := [("x" : Str), ("y" : Str), ("width" : Str), ("height" : Str), ("stand" : Str)]) fun _ _ _ _ _ _ us hl => match us, hl with | [_, _, _, _, _], _ => rfl) (h_box_at nb F_box_at)
  have H_zoomed : Has l.prog w K mg base 2 ("zoomed" : Str) (spP K 4 q_zoomed) := Has.mk' (PySem.W.mg_of X G a_zoomed) F_zoomed (F_zoomed.binds (ps := [("chart" : Str), ("layout" : Str), ("point" : Str), ("zoom" : Str)]) fun _ _ _ _ _ _ us hl => match us, hl with | [_, _, _, _], _ => rfl) (h_zoomed nb F_zoomed H_box_at)
  have H_box_zoomed : Has l.prog w K mg base 4 ("box_zoomed" : Str) (spP K 4 q_box_zoomed) := Has.mk' (PySem.W.mg_of X G a_box_zoomed) F_box_zoomed (F_box_zoomed.binds (ps := [("chart" : Str), ("layout" : Str), ("point" : Str), ("zoom" : Str)]) fun _ _ _ _ _ _ us hl => match us, hl with | [_, _, _, _], _ => rfl) (h_box_zoomed nb F_box_zoomed H_need_bare H_need_point H_zoomed)
  have H_need_two : Has l.prog w K mg base 4 ("need_two" : Str) (spP K 3 q_need_two) := Has.mk' (PySem.W.mg_of X G a_need_two) F_need_two (F_need_two.binds (ps := [("chart" : Str), ("one" : Str), ("other" : Str)]) fun _ _ _ _ _ _ us hl => match us, hl with | [_, _, _], _ => rfl) (h_need_two nb F_need_two H_need_bare H_need_point X_Refused)
  have H_do_clash : Has l.prog w K mg base 1 ("do_clash" : Str) (spP K 2 q_do_clash) := Has.mk' (PySem.W.mg_of X G a_do_clash) F_do_clash (F_do_clash.binds (ps := [("one" : Str), ("other" : Str)]) fun _ _ _ _ _ _ us hl => match us, hl with | [_, _], _ => rfl) (h_do_clash nb F_do_clash)
  have H_are_in_the_way : Has l.prog w K mg base 3 ("are_in_the_way" : Str) (spP K 5 q_are_in_the_way) := Has.mk' (PySem.W.mg_of X G a_are_in_the_way) F_are_in_the_way (F_are_in_the_way.binds (ps := [("chart" : Str), ("layout" : Str), ("one" : Str), ("other" : Str), ("zoom" : Str)]) fun _ _ _ _ _ _ us hl => match us, hl with | [_, _, _, _, _], _ => rfl) (h_are_in_the_way nb F_are_in_the_way H_zoomed H_do_clash)
  have H_parting : Has l.prog w K mg base 4 ("parting" : Str) (spP K 4 q_parting) := Has.mk' (PySem.W.mg_of X G a_parting) F_parting (F_parting.binds (ps := [("chart" : Str), ("layout" : Str), ("one" : Str), ("other" : Str)]) fun _ _ _ _ _ _ us hl => match us, hl with | [_, _, _, _], _ => rfl) (h_parting nb F_parting H_are_in_the_way)
  have H_parted_at : Has l.prog w K mg base 5 ("parted_at" : Str) (spP K 4 q_parted_at) := Has.mk' (PySem.W.mg_of X G a_parted_at) F_parted_at (F_parted_at.binds (ps := [("chart" : Str), ("layout" : Str), ("one" : Str), ("other" : Str)]) fun _ _ _ _ _ _ us hl => match us, hl with | [_, _, _, _], _ => rfl) (h_parted_at nb F_parted_at H_need_two H_parting)
  have H_do_clash_at : Has l.prog w K mg base 5 ("do_clash_at" : Str) (spP K 5 q_do_clash_at) := Has.mk' (PySem.W.mg_of X G a_do_clash_at) F_do_clash_at (F_do_clash_at.binds (ps := [("chart" : Str), ("layout" : Str), ("one" : Str), ("other" : Str), ("zoom" : Str)]) fun _ _ _ _ _ _ us hl => match us, hl with | [_, _, _, _, _], _ => rfl) (h_do_clash_at nb F_do_clash_at H_need_two H_are_in_the_way)
  exact h_law nb F_law a_law (F_law.binds (ps := [("script" : Str)]) fun _ _ _ _ _ _ us hl => match us, hl with | [_], _ => rfl) H__law_bag H__law_chart H__law_some H__law_alike H__law_zoomed H__law_hit H__law_parted H_box_zoomed H_parted_at H_do_clash_at HH__law_heard hti (hTb _ List.mem_cons_self) law_go
end L2.DL.k48
open PySem PySem.W PyProof.Rows
set_option maxRecDepth 100000 in
set_option maxHeartbeats 0 in
theorem PySem.Challenge.cw_namesfit_k48_names_that_part_as_one_zoom_holds : PySem.Challenge.rw_namesfit_k48_names_that_part_as_one_zoom.Holds := by
  w_on; o_law; k_head; (case hw => w_witness2)
  k_fill
  first | (refine L2.DL.walk_lawT (l := PySem.Challenge.rw_namesfit_k48_names_that_part_as_one_zoom) rfl rfl (fun w h Y => PySem.W.kIn_of Y) ?T ⟨_, rfl⟩ ?F) | (refine L2.DL.walk_lawT (l := PySem.Challenge.rw_namesfit_k48_names_that_part_as_one_zoom) rfl rfl (fun w h Y => PySem.W.km_in_of Y) ?T ⟨_, rfl⟩ ?F)
  case T =>
    intro w
    refine' ⟨_, _, L2.DL.tabIn_of ?t1 ?t2 ?t3 ?t4 ?t5, ?tb⟩
    (case t1 => k_is); (case t2 => k_is); (case t3 => rfl); (case t4 => k_is); (case t5 => rfl); (case tb => first | k_is | kernel_rfl)
  case F =>
    intro w mg fa h KX G hmg base KB GB hTb
    refine' L2.DL.k48.all_mk KX G hmg (L2.DL.Def.mk' ?a0 ?l0 ?c0 ?k0) (L2.DL.Def.mk' ?a1 ?l1 ?c1 ?k1) (L2.DL.Def.mk' ?a2 ?l2 ?c2 ?k2) (L2.DL.Def.mk' ?a3 ?l3 ?c3 ?k3) (L2.DL.Def.mk' ?a4 ?l4 ?c4 ?k4) (L2.DL.Def.mk' ?a5 ?l5 ?c5 ?k5) (L2.DL.Def.mk' ?a6 ?l6 ?c6 ?k6) (L2.DL.Def.mk' ?a7 ?l7 ?c7 ?k7) (L2.DL.Def.mk' ?a8 ?l8 ?c8 ?k8) (L2.DL.Def.mk' ?a9 ?l9 ?c9 ?k9) (L2.DL.Def.mk' ?a10 ?l10 ?c10 ?k10) (L2.DL.Def.mk' ?a11 ?l11 ?c11 ?k11) (L2.DL.Def.mk' ?a12 ?l12 ?c12 ?k12) (L2.DL.Def.mk' ?a13 ?l13 ?c13 ?k13) (L2.DL.Def.mk' ?a14 ?l14 ?c14 ?k14) (L2.DL.Def.mk' ?a15 ?l15 ?c15 ?k15) (L2.DL.Def.mk' ?a16 ?l16 ?c16 ?k16) (L2.DL.Def.mk' ?a17 ?l17 ?c17 ?k17) (L2.DL.Def.mk' ?a18 ?l18 ?c18 ?k18) (L2.DL.Def.mk' ?a19 ?l19 ?c19 ?k19) (L2.DL.Def.mk' ?a20 ?l20 ?c20 ?k20) (L2.DL.Def.mk' ?a21 ?l21 ?c21 ?k21) (L2.DL.Def.mk' ?a22 ?l22 ?c22 ?k22) (L2.DL.Def.mk' ?a23 ?l23 ?c23 ?k23) (L2.DL.Def.mk' ?a24 ?l24 ?c24 ?k24) (L2.DL.Def.mk' ?a25 ?l25 ?c25 ?k25) (L2.DL.Def.mk' ?a26 ?l26 ?c26 ?k26) ?z0 ?z1 ?z2 ?z3 ?z4 ?z5 ?z6 ?z7 ?z8 ?z9 ?z10 ?z11 ?z12 (L2.DL.GlobK.a ?ge0 ?gb0) (L2.DL.CatchK.cons (L2.DL.CatchK.cons (L2.DL.CatchK.cons (L2.DL.CatchK.nil ?cn_NoPoint) ?cx_NoPoint_Refused ?cy_NoPoint_Refused ?cz_NoPoint_Refused) ?cx_NoPoint_NoPoint ?cy_NoPoint_NoPoint ?cz_NoPoint_NoPoint) ?cx_NoPoint_NamesError ?cy_NoPoint_NamesError ?cz_NoPoint_NamesError) (L2.DL.CatchK.cons (L2.DL.CatchK.cons (L2.DL.CatchK.cons (L2.DL.CatchK.nil ?cn_Refused) ?cx_Refused_Refused ?cy_Refused_Refused ?cz_Refused_Refused) ?cx_Refused_NoPoint ?cy_Refused_NoPoint ?cz_Refused_NoPoint) ?cx_Refused_NamesError ?cy_Refused_NamesError ?cz_Refused_NamesError) (L2.DL.FldX.cons L2.DL.FldX.nil ?fa_name_NoPoint ?fb_name_NoPoint ?fc_name_NoPoint) (L2.DL.FldX.cons L2.DL.FldX.nil ?fa_why_Refused ?fb_why_Refused ?fc_why_Refused) (L2.DL.XFacts.mk' ?x1_NoPoint (L2.DL.excK_of ?eh1_NoPoint ?eh2_NoPoint ?eh3_NoPoint ?eh4_NoPoint ?eh5_NoPoint ?eh6_NoPoint ?eg1_NoPoint ?eg2_NoPoint ?eg3_NoPoint ?eg4_NoPoint ?eg5_NoPoint ?eg6_NoPoint) ?x3_NoPoint ?x4_NoPoint ?x5_NoPoint ?x6_NoPoint ?x7_NoPoint ?x8_NoPoint ?x9_NoPoint ?x10_NoPoint ?x11_NoPoint) (L2.DL.XFacts.mk' ?x1_Refused (L2.DL.excK_of ?eh1_Refused ?eh2_Refused ?eh3_Refused ?eh4_Refused ?eh5_Refused ?eh6_Refused ?eg1_Refused ?eg2_Refused ?eg3_Refused ?eg4_Refused ?eg5_Refused ?eg6_Refused) ?x3_Refused ?x4_Refused ?x5_Refused ?x6_Refused ?x7_Refused ?x8_Refused ?x9_Refused ?x10_Refused ?x11_Refused) (L2.DL.tabIn_of ?t1 ?t2 ?t3 ?t4 ?t5) base KB GB hTb
    (case a0 => k_is); (case l0 => k_is); (case c0 => k_is); (case k0 => k_is)
    (case a1 => k_is); (case l1 => k_is); (case c1 => k_is); (case k1 => k_is)
    (case a2 => k_is); (case l2 => k_is); (case c2 => k_is); (case k2 => k_is)
    (case a3 => k_is); (case l3 => k_is); (case c3 => k_is); (case k3 => k_is)
    (case a4 => k_is); (case l4 => k_is); (case c4 => k_is); (case k4 => k_is)
    (case a5 => k_is); (case l5 => k_is); (case c5 => k_is); (case k5 => k_is)
    (case a6 => k_is); (case l6 => k_is); (case c6 => k_is); (case k6 => k_is)
    (case a7 => k_is); (case l7 => k_is); (case c7 => k_is); (case k7 => k_is)
    (case a8 => k_is); (case l8 => k_is); (case c8 => k_is); (case k8 => k_is)
    (case a9 => k_is); (case l9 => k_is); (case c9 => k_is); (case k9 => k_is)
    (case a10 => k_is); (case l10 => k_is); (case c10 => k_is); (case k10 => k_is)
    (case a11 => k_is); (case l11 => k_is); (case c11 => k_is); (case k11 => k_is)
    (case a12 => k_is); (case l12 => k_is); (case c12 => k_is); (case k12 => k_is)
    (case a13 => k_is); (case l13 => k_is); (case c13 => k_is); (case k13 => k_is)
    (case a14 => k_is); (case l14 => k_is); (case c14 => k_is); (case k14 => k_is)
    (case a15 => k_is); (case l15 => k_is); (case c15 => k_is); (case k15 => k_is)
    (case a16 => k_is); (case l16 => k_is); (case c16 => k_is); (case k16 => k_is)
    (case a17 => k_is); (case l17 => k_is); (case c17 => k_is); (case k17 => k_is)
    (case a18 => k_is); (case l18 => k_is); (case c18 => k_is); (case k18 => k_is)
    (case a19 => k_is); (case l19 => k_is); (case c19 => k_is); (case k19 => k_is)
    (case a20 => k_is); (case l20 => k_is); (case c20 => k_is); (case k20 => k_is)
    (case a21 => k_is); (case l21 => k_is); (case c21 => k_is); (case k21 => k_is)
    (case a22 => k_is); (case l22 => k_is); (case c22 => k_is); (case k22 => k_is)
    (case a23 => k_is); (case l23 => k_is); (case c23 => k_is); (case k23 => k_is)
    (case a24 => k_is); (case l24 => k_is); (case c24 => k_is); (case k24 => k_is)
    (case a25 => k_is); (case l25 => k_is); (case c25 => k_is); (case k25 => k_is)
    (case a26 => k_is); (case l26 => k_is); (case c26 => k_is); (case k26 => k_is)
    (case z0 => k_is)
    (case z1 => k_is)
    (case z2 => k_is)
    (case z3 => k_is)
    (case z4 => k_is)
    (case z5 => k_is)
    (case z6 => k_is)
    (case z7 => k_is)
    (case z8 => k_is)
    (case z9 => k_is)
    (case z10 => k_is)
    (case z11 => k_is)
    (case z12 => k_is)
    (case ge0 => k_is); (case gb0 => rfl)
    (case cn_NoPoint => k_is)
    (case cx_NoPoint_Refused => k_is); (case cy_NoPoint_Refused => k_is); (case cz_NoPoint_Refused => first | k_is | kernel_rfl)
    (case cx_NoPoint_NoPoint => k_is); (case cy_NoPoint_NoPoint => k_is); (case cz_NoPoint_NoPoint => first | k_is | kernel_rfl)
    (case cx_NoPoint_NamesError => k_is); (case cy_NoPoint_NamesError => k_is); (case cz_NoPoint_NamesError => first | k_is | kernel_rfl)
    (case cn_Refused => k_is)
    (case cx_Refused_Refused => k_is); (case cy_Refused_Refused => k_is); (case cz_Refused_Refused => first | k_is | kernel_rfl)
    (case cx_Refused_NoPoint => k_is); (case cy_Refused_NoPoint => k_is); (case cz_Refused_NoPoint => first | k_is | kernel_rfl)
    (case cx_Refused_NamesError => k_is); (case cy_Refused_NamesError => k_is); (case cz_Refused_NamesError => first | k_is | kernel_rfl)
    (case fa_name_NoPoint => k_is); (case fb_name_NoPoint => first | k_is | kernel_rfl); (case fc_name_NoPoint => k_is)
    (case fa_why_Refused => k_is); (case fb_why_Refused => first | k_is | kernel_rfl); (case fc_why_Refused => k_is)
    (case x1_NoPoint => k_is)
    (case eh1_NoPoint => first | k_is | rfl | decide +kernel)
    (case eh2_NoPoint => first | k_is | rfl | decide +kernel)
    (case eh3_NoPoint => first | k_is | rfl | decide +kernel)
    (case eh4_NoPoint => first | k_is | rfl | decide +kernel)
    (case eh5_NoPoint => first | k_is | rfl | decide +kernel)
    (case eh6_NoPoint => first | k_is | rfl | decide +kernel)
    (case eg1_NoPoint => first | k_is | rfl | decide +kernel)
    (case eg2_NoPoint => first | k_is | rfl | decide +kernel)
    (case eg3_NoPoint => first | k_is | rfl | decide +kernel)
    (case eg4_NoPoint => first | k_is | rfl | decide +kernel)
    (case eg5_NoPoint => first | k_is | rfl | decide +kernel)
    (case eg6_NoPoint => first | k_is | rfl | decide +kernel)
    (case x3_NoPoint => first | k_is | rfl)
    (case x4_NoPoint => first | k_is | rfl)
    (case x5_NoPoint => first | k_is | rfl)
    (case x6_NoPoint => first | k_is | rfl)
    (case x7_NoPoint => first | k_is | rfl)
    (case x8_NoPoint => first | k_is | rfl)
    (case x9_NoPoint => first | k_is | rfl)
    (case x10_NoPoint => first | k_is | rfl)
    (case x11_NoPoint => intro f hf; rw [List.mem_singleton] at hf; subst hf; k_is)
    (case x1_Refused => k_is)
    (case eh1_Refused => first | k_is | rfl | decide +kernel)
    (case eh2_Refused => first | k_is | rfl | decide +kernel)
    (case eh3_Refused => first | k_is | rfl | decide +kernel)
    (case eh4_Refused => first | k_is | rfl | decide +kernel)
    (case eh5_Refused => first | k_is | rfl | decide +kernel)
    (case eh6_Refused => first | k_is | rfl | decide +kernel)
    (case eg1_Refused => first | k_is | rfl | decide +kernel)
    (case eg2_Refused => first | k_is | rfl | decide +kernel)
    (case eg3_Refused => first | k_is | rfl | decide +kernel)
    (case eg4_Refused => first | k_is | rfl | decide +kernel)
    (case eg5_Refused => first | k_is | rfl | decide +kernel)
    (case eg6_Refused => first | k_is | rfl | decide +kernel)
    (case x3_Refused => first | k_is | rfl)
    (case x4_Refused => first | k_is | rfl)
    (case x5_Refused => first | k_is | rfl)
    (case x6_Refused => first | k_is | rfl)
    (case x7_Refused => first | k_is | rfl)
    (case x8_Refused => first | k_is | rfl)
    (case x9_Refused => first | k_is | rfl)
    (case x10_Refused => first | k_is | rfl)
    (case x11_Refused => intro f hf; rw [List.mem_singleton] at hf; subst hf; k_is)
    (case t1 => k_is); (case t2 => k_is); (case t3 => rfl); (case t4 => k_is); (case t5 => rfl)
