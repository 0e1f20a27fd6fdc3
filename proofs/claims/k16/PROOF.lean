import PyProof.Rows.All
import Wide.All
import OpenK.AllK
import Wide.FinOn
import HandS.ForMost
import HandS.Wide
import HandS.IsInst
import HandS.TupAny
import HandS.Style
import HandS.RaiseMore
import KE.DataEq
import HandS.Zip
import HandS.StrMore
import HandS.TupMul
import PyProof.NeKinds
import KE.GoesMore
import KE.KIntText
import PyProof.Rows.StrCut
import HandS.FStrTup
import PyProof.Rows.ReprR
import KE.KUnpackStar
import PyProof.AutoListH
import PyProof.Rows.SetFrom
import HandS.Strs
import PySem.Challenge.RW_callmelt_k16_thawed
set_option Elab.async false
set_option linter.all false
set_option maxRecDepth 100000
namespace Ev
open PySem PySem.Spec L2
open PyProof.Rows hiding St

/-- frozen data -/
inductive D where
  | non | bl (b : Bool) | int (i : Int) | str (x : Str) | tup (xs : List D) | lst (xs : List D)
  | dk (kvs : List (Key × D))
  | dt (kvs : List (List Key × D))
  | obj (c : Str) (fs : List (Str × D))
  | fn (x : Str)
  | ty (n : String)
  | scr (xs : List D)
/-- a thing that its place owns, or frozen data -/
inductive M where
  | d (x : D)
  | lst (xs : List D)
  | dk (kvs : List (Key × D))
def M.toD : M → D
  | .d x => x
  | .lst xs => .lst xs
  | .dk kvs => .dk kvs
abbrev SS := List (Option M)
structure Exn where
  cls : Str
  fs : List (Str × D)
inductive R (α : Type) where
  | ok (a : α) (S : SS)
  | ex (x : Exn) (S : SS)
  | no
/-- a mark that keeps simp from going into what is still to come -/
structure Ph.{u} {α : Sort u} (a : α) : Type where
  mk ::
def R.bind {α β : Type} (r : R α) (g : α → SS → R β) (_ : Ph g := ⟨⟩) : R β := match r with
  | .ok a S => g a S
  | .ex x S => .ex x S
  | .no => .no
/-- an operand: a value, or a name's slot -/
inductive Ov where
  | d (x : D)
  | j (i : Nat)
def SS.at (S : SS) (i : Nat) : Option M := (S[i]?).join
def Ov.get : Ov → SS → Option D
  | .d x, _ => some x
  | .j i, S => (S.at i).map M.toD

mutual
inductive RepD (K : PySem.W.Frag) (F : Hp) : V → D → Prop
  | non : RepD K F .non .non
  | bl (b : Bool) : RepD K F (.bl b) (.bl b)
  | int (i : Int) : RepD K F (.int i) (.int i)
  | str (x : Str) : RepD K F (.str x) (.str x)
  | tup {a : Addr} {vs : List V} {ds : List D} : SqT K F a vs → RepDs K F vs ds → RepD K F (.ref a) (.tup ds)
  | lst {a : Addr} {vs : List V} {ds : List D} : Rd F a (.lst vs) → RepDs K F vs ds → RepD K F (.ref a) (.lst ds)
  | ty (n : String) : RepD K F (.ty n) (.ty n)
  | scr {a : Addr} {vs : List V} {ds : List D} : SqL K F a vs → RepDs K F vs ds → RepD K F (.ref a) (.scr ds)
  | dk {a : Addr} {ks : List Key} {vs : List V} {ds : List D} : Rd F a (.dK (ks.zip vs)) → ks.length = vs.length → RepDs K F vs ds → RepD K F (.ref a) (.dk (ks.zip ds))
inductive RepDs (K : PySem.W.Frag) (F : Hp) : List V → List D → Prop
  | nil : RepDs K F [] []
  | cons {v : V} {vs : List V} {d : D} {ds : List D} : RepD K F v d → RepDs K F vs ds → RepDs K F (v :: vs) (d :: ds)
end

/-- F is kept in F' -/
def Le (F F' : Hp) : Prop := ∀ a o, F a = some o → F' a = some o
theorem Le.refl (F : Hp) : Le F F := fun _ _ h => h
theorem Le.trans {F F1 F2 : Hp} (a : Le F F1) (b : Le F1 F2) : Le F F2 := fun x o h => b x o (a x o h)
theorem Le.rd {F F' : Hp} (l : Le F F') {a : Addr} {u : HO} (h : Rd F a u) : Rd F' a u := by
  rcases h with h | ⟨o, h⟩
  · exact .inl (l _ _ h)
  · exact .inr ⟨o, l _ _ h⟩
theorem Le.sl {K : PySem.W.Frag} {F F' : Hp} (l : Le F F') {a : Addr} {xs : List V} (h : SqL K F a xs) : SqL K F' a xs := by
  rcases h with h | h
  · exact .inl (l.rd h)
  · exact .inr h
theorem Le.st {K : PySem.W.Frag} {F F' : Hp} (l : Le F F') {a : Addr} {xs : List V} (h : SqT K F a xs) : SqT K F' a xs := by
  rcases h with h | h
  · exact .inl (l.rd h)
  · exact .inr h
mutual
theorem RepD.mono {K : PySem.W.Frag} {F F' : Hp} (l : Le F F') : ∀ {v : V} {d : D}, RepD K F v d → RepD K F' v d
  | _, _, .non => .non
  | _, _, .bl b => .bl b
  | _, _, .int b => .int b
  | _, _, .str b => .str b
  | _, _, .tup h r => .tup (l.st h) (RepDs.mono l r)
  | _, _, .lst h r => .lst (l.rd h) (RepDs.mono l r)
  | _, _, .ty n => .ty n
  | _, _, .scr h r => .scr (l.sl h) (RepDs.mono l r)
  | _, _, .dk h e r => .dk (l.rd h) e (RepDs.mono l r)
theorem RepDs.mono {K : PySem.W.Frag} {F F' : Hp} (l : Le F F') : ∀ {v : List V} {d : List D}, RepDs K F v d → RepDs K F' v d
  | _, _, .nil => .nil
  | _, _, .cons h r => .cons (RepD.mono l h) (RepDs.mono l r)
end
theorem RepDs.len {K : PySem.W.Frag} {F : Hp} : ∀ {v : List V} {d : List D}, RepDs K F v d → v.length = d.length
  | _, _, .nil => rfl
  | _, _, .cons _ r => congrArg (· + 1) (RepDs.len r)
theorem RepDs.get {K : PySem.W.Frag} {F : Hp} : ∀ {v : List V} {d : List D} {i : Nat} {x : D}, RepDs K F v d → d[i]? = some x → ∃ u, v[i]? = some u ∧ RepD K F u x
  | _, _, _, _, .nil, e => by simp at e
  | _, _, 0, _, .cons h r, e => by simp at e; subst e; exact ⟨_, rfl, h⟩
  | _, _, i + 1, x, .cons _ r, e => by
    obtain ⟨u, h1, h2⟩ := RepDs.get (i := i) (x := x) r (by simpa using e)
    exact ⟨u, by simpa using h1, h2⟩
theorem RepDs.getV {K : PySem.W.Frag} {F : Hp} : ∀ {v : List V} {d : List D} {i : Nat} {x : V}, RepDs K F v d → v[i]? = some x → ∃ u, d[i]? = some u ∧ RepD K F x u
  | _, _, _, _, .nil, e => by simp at e
  | _, _, 0, _, .cons h r, e => by simp at e; subst e; exact ⟨_, rfl, h⟩
  | _, _, i + 1, x, .cons _ r, e => by
    obtain ⟨u, h1, h2⟩ := RepDs.getV (i := i) (x := x) r (by simpa using e)
    exact ⟨u, by simpa using h1, h2⟩
theorem RepDs.append {K : PySem.W.Frag} {F : Hp} : ∀ {v v' : List V} {d d' : List D}, RepDs K F v d → RepDs K F v' d' → RepDs K F (v ++ v') (d ++ d')
  | _, _, _, _, .nil, s => s
  | _, _, _, _, .cons h r, s => .cons h (RepDs.append r s)
theorem RepDs.set {K : PySem.W.Frag} {F : Hp} {x : V} {y : D} (h : RepD K F x y) : ∀ {v : List V} {d : List D} (i : Nat), RepDs K F v d → RepDs K F (v.set i x) (d.set i y)
  | _, _, _, .nil => .nil
  | _, _, 0, .cons _ r => .cons h r
  | _, _, i + 1, .cons q r => .cons q (RepDs.set h i r)
theorem RepDs.take {K : PySem.W.Frag} {F : Hp} : ∀ {v : List V} {d : List D} (n : Nat), RepDs K F v d → RepDs K F (v.take n) (d.take n)
  | _, _, 0, _ => .nil
  | _, _, _ + 1, .nil => .nil
  | _, _, n + 1, .cons h r => .cons h (RepDs.take n r)
theorem RepDs.drop {K : PySem.W.Frag} {F : Hp} : ∀ {v : List V} {d : List D} (n : Nat), RepDs K F v d → RepDs K F (v.drop n) (d.drop n)
  | _, _, 0, r => r
  | _, _, _ + 1, .nil => .nil
  | _, _, n + 1, .cons h r => RepDs.drop n r
theorem RepDs.dropLast {K : PySem.W.Frag} {F : Hp} {v : List V} {d : List D} (h : RepDs K F v d) : RepDs K F v.dropLast d.dropLast := by
  rw [List.dropLast_eq_take, List.dropLast_eq_take, h.len]
  exact h.take _
theorem RepDs.snoc {K : PySem.W.Frag} {F : Hp} {v : List V} {d : List D} {x : V} {y : D} (h : RepDs K F v d) (r : RepD K F x y) : RepDs K F (v ++ [x]) (d ++ [y]) := h.append (.cons r .nil)
theorem RepDs.reverse {K : PySem.W.Frag} {F : Hp} : ∀ {v : List V} {d : List D}, RepDs K F v d → RepDs K F v.reverse d.reverse
  | _, _, .nil => .nil
  | _, _, .cons h r => by
    rw [List.reverse_cons, List.reverse_cons]
    exact (RepDs.reverse r).snoc h

/-! ### places -/
inductive Rt where
  | s (i : Nat) | r
  deriving DecidableEq
abbrev Pl := Rt × List Str
abbrev OW := Addr → Option Pl
structure Bs (H F : Hp) (O : OW) : Prop where
  fh : Le F H
  fo : ∀ a q, O a = some q → F a = none ∧ ∃ o, H a = some o
structure Stp (H F : Hp) (O : OW) (H' F' : Hp) (O' : OW) : Prop where
  ff : Le F F'
  kp : ∀ a o, H a = some o → O a = none → H' a = some o
  nw : ∀ a q, O' a = some q → (∃ q', O a = some q') ∨ H a = none
  fz : ∀ a o, F' a = some o → F a = some o ∨ (∃ q, O a = some q) ∨ H a = none
  al : ∀ a o, H a = some o → ∃ o', H' a = some o'
theorem Stp.refl (H F : Hp) (O : OW) : Stp H F O H F O := ⟨Le.refl _, fun _ _ h _ => h, fun _ _ h => .inl ⟨_, h⟩, fun _ _ h => .inl h, fun _ o h => ⟨o, h⟩⟩
theorem Stp.trans {H F H1 F1 H2 F2 : Hp} {O O1 O2 : OW} (a : Stp H F O H1 F1 O1) (b : Stp H1 F1 O1 H2 F2 O2) : Stp H F O H2 F2 O2 := by
  have back : ∀ x, (∃ q', O1 x = some q') ∨ H1 x = none → (∃ q', O x = some q') ∨ H x = none := fun x h => by
    rcases h with ⟨q', h⟩ | h
    · exact a.nw x q' h
    · cases e : O x with
      | some q => exact .inl ⟨q, rfl⟩
      | none =>
        refine .inr ?_
        cases e2 : H x with
        | none => rfl
        | some o => rw [a.kp x o e2 e] at h; cases h
  refine ⟨a.ff.trans b.ff, fun x o h e => ?_, fun x q h => back x (b.nw x q h), fun x o h => ?_, fun x o h => let ⟨o1, h1⟩ := a.al x o h; b.al x o1 h1⟩
  · refine b.kp x o (a.kp x o h e) ?_
    cases e1 : O1 x with
    | none => rfl
    | some q =>
      rcases a.nw x q e1 with ⟨q', h'⟩ | h'
      · rw [e] at h'; cases h'
      · rw [h] at h'; cases h'
  · rcases b.fz x o h with h | h
    · exact a.fz x o h
    · exact .inr (back x h)

def RepM (K : PySem.W.Frag) (H F : Hp) (O : OW) (q : Pl) (v : V) : M → Prop
  | .d x => RepD K F v x
  | .lst ds => ∃ (a : Addr) (vs : List V), v = .ref a ∧ O a = some q ∧ H a = some (.lst vs) ∧ RepDs K F vs ds
  | .dk kd => ∃ (a : Addr) (ks : List Key) (vs : List V) (ds : List D), v = .ref a ∧ O a = some q ∧ H a = some (.dK (ks.zip vs)) ∧ ks.length = vs.length ∧ RepDs K F vs ds ∧ kd = ks.zip ds
structure Rp (K : PySem.W.Frag) (H F : Hp) (O : OW) (σ : St) (S : SS) : Prop where
  bs : Bs H F O
  len : S.length = σ.length
  sl : ∀ i m, S.at i = some m → ∃ v, σ[i]? = some (some v) ∧ RepM K H F O (.s i, []) v m

/-- what is at the place q stays -/
theorem RepM.stay {K : PySem.W.Frag} {H F H' F' : Hp} {O O' : OW} {q : Pl} {v : V} {m : M} (h : RepM K H F O q v m) (ff : Le F F') (k : ∀ a o, O a = some q → H a = some o → H' a = some o ∧ O' a = some q) : RepM K H' F' O' q v m := by
  cases m with
  | d x => exact RepD.mono ff h
  | lst ds =>
    obtain ⟨a, vs, e, ho, hh, r⟩ := h
    obtain ⟨k1, k2⟩ := k a _ ho hh
    exact ⟨a, vs, e, k2, k1, r.mono ff⟩
  | dk kd =>
    obtain ⟨a, ks, vs, ds, e, ho, hh, el, r, ek⟩ := h
    obtain ⟨k1, k2⟩ := k a _ ho hh
    exact ⟨a, ks, vs, ds, e, k2, k1, el, r.mono ff, ek⟩
/-- the same at another place -/
theorem RepM.move {K : PySem.W.Frag} {H F H' F' : Hp} {O O' : OW} {q q' : Pl} {v : V} {m : M} (h : RepM K H F O q v m) (ff : Le F F') (k : ∀ a o, O a = some q → H a = some o → H' a = some o ∧ O' a = some q') : RepM K H' F' O' q' v m := by
  cases m with
  | d x => exact RepD.mono ff h
  | lst ds =>
    obtain ⟨a, vs, e, ho, hh, r⟩ := h
    obtain ⟨k1, k2⟩ := k a _ ho hh
    exact ⟨a, vs, e, k2, k1, r.mono ff⟩
  | dk kd =>
    obtain ⟨a, ks, vs, ds, e, ho, hh, el, r, ek⟩ := h
    obtain ⟨k1, k2⟩ := k a _ ho hh
    exact ⟨a, ks, vs, ds, e, k2, k1, el, r.mono ff, ek⟩

/-! ### views: what may be read now -/
inductive View (K : PySem.W.Frag) (H F : Hp) : V → D → Prop
  | fz {v : V} {d : D} : RepD K F v d → View K H F v d
  | lst {a : Addr} {vs : List V} {ds : List D} : H a = some (.lst vs) → RepDs K F vs ds → View K H F (.ref a) (.lst ds)
  | dk {a : Addr} {ks : List Key} {vs : List V} {ds : List D} : H a = some (.dK (ks.zip vs)) → ks.length = vs.length → RepDs K F vs ds → View K H F (.ref a) (.dk (ks.zip ds))
theorem RepM.view {K : PySem.W.Frag} {H F : Hp} {O : OW} {q : Pl} {v : V} {m : M} (h : RepM K H F O q v m) : View K H F v m.toD := by
  cases m with
  | d x => exact .fz h
  | lst ds =>
    obtain ⟨a, vs, e, ho, hh, r⟩ := h
    subst e
    exact .lst hh r
  | dk kd =>
    obtain ⟨a, ks, vs, ds, e, ho, hh, el, r, ek⟩ := h
    subst e ek
    exact .dk hh el r
section
variable {K : PySem.W.Frag} {H F : Hp} {v : V}
theorem View.int {i : Int} (h : View K H F v (.int i)) : v = .int i := by
  cases h with
  | fz h => cases h; rfl
theorem View.bl {i : Bool} (h : View K H F v (.bl i)) : v = .bl i := by
  cases h with
  | fz h => cases h; rfl
theorem View.str {i : Str} (h : View K H F v (.str i)) : v = .str i := by
  cases h with
  | fz h => cases h; rfl
theorem View.non (h : View K H F v .non) : v = .non := by
  cases h with
  | fz h => cases h; rfl
theorem View.scr {ds : List D} (l : Le F H) (h : View K H F v (.scr ds)) : ∃ a vs, v = .ref a ∧ SqL K H a vs ∧ RepDs K F vs ds := by
  cases h with
  | fz h => cases h with | scr h r => exact ⟨_, _, rfl, l.sl h, r⟩
theorem View.ty {i : String} (h : View K H F v (.ty i)) : v = .ty i := by
  cases h with
  | fz h => cases h; rfl
theorem View.list {ds : List D} (l : Le F H) (h : View K H F v (.lst ds)) : ∃ a vs, v = .ref a ∧ Rd H a (.lst vs) ∧ RepDs K F vs ds := by
  cases h with
  | fz h => cases h with | lst h r => exact ⟨_, _, rfl, l.rd h, r⟩
  | lst h r => exact ⟨_, _, rfl, .inl h, r⟩
theorem View.tuple {ds : List D} (l : Le F H) (h : View K H F v (.tup ds)) : ∃ a vs, v = .ref a ∧ SqT K H a vs ∧ RepDs K F vs ds := by
  cases h with
  | fz h => cases h with | tup h r => exact ⟨_, _, rfl, l.st h, r⟩
end
/-- an operand stands for v -/
def RepOv (K : PySem.W.Frag) (F : Hp) (σ : St) (v : V) : Ov → Prop
  | .d x => RepD K F v x
  | .j i => σ[i]? = some (some v)
theorem RepOv.mono {K : PySem.W.Frag} {F F' : Hp} {σ : St} {v : V} {o : Ov} (l : Le F F') (h : RepOv K F σ v o) : RepOv K F' σ v o := by
  cases o with
  | d x => exact RepD.mono l h
  | j i => exact h
theorem Rp.view {K : PySem.W.Frag} {H F : Hp} {O : OW} {σ : St} {S : SS} {v : V} {o : Ov} {d : D} (r : Rp K H F O σ S) (h : RepOv K F σ v o) (e : o.get S = some d) : View K H F v d := by
  cases o with
  | d x =>
    cases e
    exact .fz h
  | j i =>
    have e : (S.at i).map M.toD = some d := e
    cases e2 : S.at i with
    | none => rw [e2] at e; cases e
    | some m =>
      rw [e2] at e
      cases e
      obtain ⟨w, hw, rm⟩ := r.sl i m e2
      have z : σ[i]? = some (some v) := h
      rw [hw] at z
      cases z
      exact rm.view

/-! ### freezing a root -/
def frzF (q : Rt) (H F : Hp) (O : OW) : Hp := fun a => match O a with
  | some (q', _) => if q' = q then H a else F a
  | none => F a
def frzO (q : Rt) (O : OW) : OW := fun a => match O a with
  | some (q', p) => if q' = q then none else some (q', p)
  | none => none
section
variable {K : PySem.W.Frag} {H F : Hp} {O : OW} {q : Rt}
theorem frz_bs (b : Bs H F O) : Bs H (frzF q H F O) (frzO q O) := by
  refine ⟨fun a o h => ?_, fun a p h => ?_⟩
  · unfold frzF at h
    cases e : O a with
    | none => rw [e] at h; exact b.fh a o h
    | some z =>
      rw [e] at h
      dsimp only at h
      split at h
      · exact h
      · exact b.fh a o h
  · unfold frzO at h
    unfold frzF
    cases e : O a with
    | none => rw [e] at h; cases h
    | some z =>
      rw [e] at h
      dsimp only at h ⊢
      split at h
      · cases h
      · rename_i ne
        rw [if_neg ne]
        exact b.fo a _ e
theorem frz_stp (b : Bs H F O) : Stp H F O H (frzF q H F O) (frzO q O) := by
  refine ⟨fun a o h => ?_, fun a o h _ => h, fun a p h => ?_, fun a o h => ?_, fun _ o h => ⟨o, h⟩⟩
  · unfold frzF
    cases e : O a with
    | none => exact h
    | some z =>
      have := (b.fo a z e).1
      rw [h] at this
      cases this
  · unfold frzO at h
    cases e : O a with
    | none => rw [e] at h; cases h
    | some z => exact .inl ⟨z, rfl⟩
  · unfold frzF at h
    cases e : O a with
    | none => rw [e] at h; exact .inl h
    | some z => exact .inr (.inl ⟨z, rfl⟩)
theorem frz_other {q' : Rt} {p : List Str} {v : V} {m : M} (b : Bs H F O) (h : RepM K H F O (q', p) v m) (ne : q' ≠ q) : RepM K H (frzF q H F O) (frzO q O) (q', p) v m :=
  h.stay (frz_stp b).ff fun a o e1 e2 => ⟨e2, by unfold frzO; rw [e1]; dsimp only; rw [if_neg ne]⟩
theorem frz_rep {p : List Str} {v : V} {m : M} (b : Bs H F O) (h : RepM K H F O (q, p) v m) : RepD K (frzF q H F O) v m.toD := by
  have k : ∀ a o, O a = some (q, p) → H a = some o → frzF q H F O a = some o := fun a o e1 e2 => by
    unfold frzF; rw [e1]; dsimp only; rw [if_pos rfl]; exact e2
  cases m with
  | d x => exact RepD.mono (frz_stp b).ff h
  | lst ds =>
    obtain ⟨a, vs, e, ho, hh, r⟩ := h
    subst e
    exact .lst (.inl (k a _ ho hh)) (r.mono (frz_stp b).ff)
  | dk kd =>
    obtain ⟨a, ks, vs, ds, e, ho, hh, el, r, ek⟩ := h
    subst e ek
    exact .dk (.inl (k a _ ho hh)) el (r.mono (frz_stp b).ff)
end
theorem SS.at_set {S : SS} {i j : Nat} {m : Option M} {x : M} (h : SS.at (S.set i m) j = some x) : (i = j ∧ m = some x) ∨ (i ≠ j ∧ S.at j = some x) := by
  unfold SS.at at h ⊢
  by_cases e : i = j
  · subst e
    by_cases hl : i < S.length
    · rw [List.getElem?_set_self hl] at h
      exact .inl ⟨rfl, h⟩
    · rw [List.getElem?_eq_none (by simpa using hl)] at h
      cases h
  · rw [List.getElem?_set_ne e] at h
    exact .inr ⟨e, h⟩
theorem SS.set_at {S : SS} {i : Nat} {m : Option M} (hl : i < S.length) : SS.at (S.set i m) i = m := by
  unfold SS.at
  rw [List.getElem?_set_self hl]
  rfl
theorem SS.set_ne {S : SS} {i j : Nat} {m : Option M} (h : i ≠ j) : SS.at (S.set i m) j = S.at j := by
  unfold SS.at
  rw [List.getElem?_set_ne h]
/-- freezing a slot -/
def SS.frz (S : SS) (i : Nat) : SS := match S.at i with
  | some m => S.set i (some (.d m.toD))
  | none => S
theorem Rp.frzSlot {K : PySem.W.Frag} {H F : Hp} {O : OW} {σ : St} {S : SS} {i : Nat} {m : M} (r : Rp K H F O σ S) (e : S.at i = some m) :
    Rp K H (frzF (.s i) H F O) (frzO (.s i) O) σ (S.set i (some (.d m.toD))) := by
  refine ⟨frz_bs r.bs, by rw [List.length_set]; exact r.len, fun j x h => ?_⟩
  rcases SS.at_set h with ⟨e1, e2⟩ | ⟨ne, h⟩
  · subst e1
    cases e2
    obtain ⟨v, hv, rm⟩ := r.sl i m e
    exact ⟨v, hv, frz_rep r.bs rm⟩
  · obtain ⟨v, hv, rm⟩ := r.sl j x h
    exact ⟨v, hv, frz_other r.bs rm fun z => ne (by cases z; rfl)⟩
/-- freezing a result -/
theorem Rp.frzR {K : PySem.W.Frag} {H F : Hp} {O : OW} {σ : St} {S : SS} (r : Rp K H F O σ S) : Rp K H (frzF .r H F O) (frzO .r O) σ S :=
  ⟨frz_bs r.bs, r.len, fun j x h => by
    obtain ⟨v, hv, rm⟩ := r.sl j x h
    exact ⟨v, hv, frz_other r.bs rm fun z => by cases z⟩⟩

theorem PE.imp {X : Cx} {e : Expr} {t t' : TE} (h : PE X e t) (hm : ∀ σ H Q, t' σ H Q → t σ H Q) : PE X e t' := ⟨fun pins s σ H Q I q => h.run pins s σ H Q I (hm σ H Q q)⟩
theorem PT.imp {X : Cx} {e : Expr} {t t' : TT} (h : PT X e t) (hm : ∀ σ H Q, t' σ H Q → t σ H Q) : PT X e t' := ⟨fun pins s σ H Q I q => h.run pins s σ H Q I (hm σ H Q q)⟩
theorem PW.imp {X : Cx} {e : Expr} {t t' : TT} (h : PW X e t) (hm : ∀ σ H Q, t' σ H Q → t σ H Q) : PW X e t' := ⟨fun wh pins s σ H Q I q => h.run wh pins s σ H Q I (hm σ H Q q)⟩
theorem PA.imp {X : Cx} {e : List Expr} {t t' : TA} (h : PA X e t) (hm : ∀ σ H Q, t' σ H Q → t σ H Q) : PA X e t' := ⟨fun pos pins s σ H Q I q => h.run pos pins s σ H Q I (hm σ H Q q)⟩
theorem PS.imp {X : Cx} {e : Stmt} {t t' : TS} (h : PS X e t) (hm : ∀ D σ H, t' D σ H → t D σ H) : PS X e t' := ⟨fun pins s σ H D I q => h.run pins s σ H D I (hm D σ H q)⟩
theorem PSs.imp {X : Cx} {e : List Stmt} {t t' : TS} (h : PSs X e t) (hm : ∀ D σ H, t' D σ H → t D σ H) : PSs X e t' := ⟨fun pins s σ H D I q => h.run pins s σ H D I (hm D σ H q)⟩

inductive RepOvs (K : PySem.W.Frag) (F : Hp) (σ : St) : List V → List Ov → Prop
  | nil : RepOvs K F σ [] []
  | cons {v : V} {vs : List V} {o : Ov} {os : List Ov} : RepOv K F σ v o → RepOvs K F σ vs os → RepOvs K F σ (v :: vs) (o :: os)
theorem RepOvs.mono {K : PySem.W.Frag} {F F' : Hp} {σ : St} (l : Le F F') : ∀ {v : List V} {d : List Ov}, RepOvs K F σ v d → RepOvs K F' σ v d
  | _, _, .nil => .nil
  | _, _, .cons h r => .cons (h.mono l) (RepOvs.mono l r)

abbrev FE := SS → R Ov
abbrev FM := SS → R M
abbrev FB := SS → R Bool
abbrev FA := SS → R (List Ov)
def rdE (K : PySem.W.Frag) (f : FE) : TE := fun σ H Q => ∃ F O S o S', Rp K H F O σ S ∧ f S = .ok o S' ∧
  ∀ v H' F' O', Stp H F O H' F' O' → Rp K H' F' O' σ S' → RepOv K F' σ v o → Q v H'
def rdM (K : PySem.W.Frag) (f : FM) : TE := fun σ H Q => ∃ F O S m S', Rp K H F O σ S ∧ f S = .ok m S' ∧
  ∀ v H' F' O', Stp H F O H' F' O' → Rp K H' F' O' σ S' → RepM K H' F' O' (.r, []) v m → Q v H'
def rdT (K : PySem.W.Frag) (f : FB) : TT := fun σ H Q => ∃ F O S b S', Rp K H F O σ S ∧ f S = .ok b S' ∧
  ∀ H' F' O', Stp H F O H' F' O' → Rp K H' F' O' σ S' → Q b H'
def rdA (K : PySem.W.Frag) (f : FA) : TA := fun σ H Q => ∃ F O S os S', Rp K H F O σ S ∧ f S = .ok os S' ∧
  ∀ vs H' F' O', Stp H F O H' F' O' → Rp K H' F' O' σ S' → RepOvs K F' σ vs os → Q vs H'
abbrev DE (X : Cx) (f : FE) (e : Expr) : Prop := PE X e (rdE X.K f)
abbrev DM (X : Cx) (f : FM) (e : Expr) : Prop := PE X e (rdM X.K f)
abbrev DT (X : Cx) (f : FB) (e : Expr) : Prop := PT X e (rdT X.K f)
abbrev DW (X : Cx) (f : FB) (e : Expr) : Prop := PW X e (rdT X.K f)
abbrev DA (X : Cx) (f : FA) (es : List Expr) : Prop := PA X es (rdA X.K f)

theorem R.bind_ok {α β : Type} {r : R α} {g : α → SS → R β} {b : β} {S : SS} (h : r.bind g = .ok b S) : ∃ a S1, r = .ok a S1 ∧ g a S1 = .ok b S := by
  cases r with
  | ok a S1 => exact ⟨a, S1, rfl, h⟩
  | ex x S1 => cases h
  | no => cases h

/-! ### laying new things -/
section
variable {K : PySem.W.Frag} {H F : Hp} {O : OW} {σ : St} {S : SS} {p : Addr} {o : HO}
theorem Bs.free (b : Bs H F O) (h : H p = none) : F p = none ∧ O p = none := by
  refine ⟨?_, ?_⟩
  · cases e : F p with
    | none => rfl
    | some x => rw [b.fh p x e] at h; cases h
  · cases e : O p with
    | none => rfl
    | some x =>
      obtain ⟨_, y, hy⟩ := b.fo p x e
      rw [hy] at h; cases h
theorem Le.upd2 (l : Le F H) : Le (upd F p o) (upd H p o) := fun a u h => by
  by_cases e : a = p
  · subst e; rw [upd_same] at h ⊢; exact h
  · rw [upd_ne e] at h ⊢; exact l a u h
theorem Le.upd1 (h : H p = none) : Le H (upd H p o) := fun a u e => by
  rw [upd_ne (ne_of_none e h)]; exact e
/-- a new frozen object -/
theorem al_upd : ∀ a u, H a = some u → ∃ u', upd H p o a = some u' := fun a u h => by
  by_cases e : a = p
  · subst e; exact ⟨o, upd_same⟩
  · exact ⟨u, by rw [upd_ne e]; exact h⟩
theorem Rp.layF (r : Rp K H F O σ S) (h : H p = none) : Stp H F O (upd H p o) (upd F p o) O ∧ Rp K (upd H p o) (upd F p o) O σ S := by
  obtain ⟨hF, hO⟩ := r.bs.free h
  refine ⟨⟨Le.upd1 hF, fun a u e _ => Le.upd1 h a u e, fun a q e => .inl ⟨q, e⟩, fun a u e => ?_, al_upd⟩, ⟨⟨r.bs.fh.upd2, fun a q e => ?_⟩, r.len, fun i m e => ?_⟩⟩
  · by_cases ea : a = p
    · subst ea; exact .inr (.inr h)
    · rw [upd_ne ea] at e; exact .inl e
  · obtain ⟨h1, u, h2⟩ := r.bs.fo a q e
    have ea : a ≠ p := fun z => by subst z; rw [h] at h2; cases h2
    rw [upd_ne ea, upd_ne ea]
    exact ⟨h1, u, h2⟩
  · obtain ⟨v, hv, rm⟩ := r.sl i m e
    exact ⟨v, hv, rm.stay (Le.upd1 hF) fun a u e1 e2 => ⟨Le.upd1 h a u e2, e1⟩⟩
def ownR (O : OW) (p : Addr) (q : Pl) : OW := fun a => if a = p then some q else O a
/-- a new object of a place -/
theorem Rp.layO {q : Pl} (r : Rp K H F O σ S) (h : H p = none) : Stp H F O (upd H p o) F (ownR O p q) ∧ Rp K (upd H p o) F (ownR O p q) σ S := by
  obtain ⟨hF, hO⟩ := r.bs.free h
  refine ⟨⟨Le.refl _, fun a u e _ => Le.upd1 h a u e, fun a q e => ?_, fun a u e => .inl e, al_upd⟩, ⟨⟨r.bs.fh.trans (Le.upd1 h), fun a q' e => ?_⟩, r.len, fun i m e => ?_⟩⟩
  · unfold ownR at e
    split at e
    · rename_i z; subst z; exact .inr h
    · exact .inl ⟨q, e⟩
  · unfold ownR at e
    split at e
    · rename_i z; subst z; exact ⟨hF, o, upd_same⟩
    · rename_i ne
      obtain ⟨h1, u, h2⟩ := r.bs.fo a q' e
      exact ⟨h1, u, by rw [upd_ne ne]; exact h2⟩
  · obtain ⟨v, hv, rm⟩ := r.sl i m e
    refine ⟨v, hv, rm.stay (Le.refl _) fun a u e1 e2 => ⟨Le.upd1 h a u e2, ?_⟩⟩
    unfold ownR
    rw [if_neg (ne_of_none e2 h)]
    exact e1
end

/-- what is wanted of a result that is laid here, or is there -/
structure Wish (K : PySem.W.Frag) (H F : Hp) (m : M) (Q : VK) : Prop where
  d : ∀ x v, m = .d x → RepD K F v x → Q v H
  t : ∀ zs p vs, m = .d (.tup zs) → H p = none → RepDs K F vs zs → Q (.ref p) (upd H p (.tup vs))
  l : ∀ zs p vs, m = .lst zs → H p = none → RepDs K F vs zs → Q (.ref p) (upd H p (.lst vs))
  k : ∀ (ks : List Key) ds p vs, m = .dk (ks.zip ds) → ks.length = vs.length → H p = none → RepDs K F vs ds → Q (.ref p) (upd H p (.dK (ks.zip vs)))
section
variable {K : PySem.W.Frag} {H F : Hp} {O : OW} {σ : St} {S : SS}
theorem Rp.wish {m : M} {Q : VK} (r : Rp K H F O σ S) (k : ∀ v H' F' O', Stp H F O H' F' O' → Rp K H' F' O' σ S → RepM K H' F' O' (.r, []) v m → Q v H') : Wish K H F m Q := by
  refine ⟨fun x v e h => ?_, fun zs p vs e h rv => ?_, fun zs p vs e h rv => ?_, fun ks ds p vs e el h rv => ?_⟩
  · subst e
    exact k v H F O (Stp.refl _ _ _) r h
  · subst e
    obtain ⟨h1, h2⟩ := r.layF (o := .tup vs) h
    exact k _ _ _ _ h1 h2 (.tup (.inl (.inl upd_same)) (rv.mono h1.ff))
  · subst e
    obtain ⟨h1, h2⟩ := r.layO (o := .lst vs) (q := (.r, [])) h
    exact k _ _ _ _ h1 h2 ⟨p, vs, rfl, if_pos rfl, upd_same, rv⟩
  · subst e
    obtain ⟨h1, h2⟩ := r.layO (o := .dK (ks.zip vs)) (q := (.r, [])) h
    exact k _ _ _ _ h1 h2 ⟨p, ks, vs, ds, rfl, if_pos rfl, upd_same, el, rv, rfl⟩
end

section
variable {X : Cx} {e a b : Expr} {pos : Pos}
/-! ### names and constants -/
def eN (i : Nat) : FE := fun S => match S.at i with
  | some _ => .ok (.j i) S
  | none => .no
def eC (d : D) : FE := fun S => .ok (.d d) S
theorem de_n {i : Nat} (h : PE X e (tVar i)) : DE X (eN i) e := PE.imp h fun σ H Q ⟨F, O, S, o, S', r, hf, k⟩ => by
  unfold eN at hf
  cases em : S.at i with
  | none => rw [em] at hf; cases hf
  | some m =>
    rw [em] at hf
    cases hf
    obtain ⟨v, hv, rm⟩ := r.sl i m em
    exact ⟨v, hv, k v H F O (Stp.refl _ _ _) r hv⟩
theorem de_c {v : V} {d : D} (h : PE X e (tC v)) (hd : ∀ F, RepD X.K F v d) : DE X (eC d) e := PE.imp h fun σ H Q ⟨F, O, S, o, S', r, hf, k⟩ => by
  cases hf
  exact k v H F O (Stp.refl _ _ _) r (hd F)
theorem de_int {i : Int} {j : Nat} : DE X (eC (.int i)) (.Constant (.int i) j pos) := de_c pe_int fun _ => .int _
theorem de_bl {i : Bool} {j : Nat} : DE X (eC (.bl i)) (.Constant (.bool i) j pos) := de_c pe_bl fun _ => .bl _
theorem de_non {j : Nat} : DE X (eC .non) (.Constant .none j pos) := de_c pe_non fun _ => .non
theorem de_str {x : Str} {j : Nat} : DE X (eC (.str x)) (.Constant (.str x) j pos) := de_c pe_str fun _ => .str _

/-! ### from a value's reading to a result's, and back -/
def eM (f : FM) : FE := fun S => (f S).bind fun m S => .ok (.d m.toD) S
theorem de_m {f : FM} (h : DM X f e) : DE X (eM f) e := PE.imp h fun σ H Q ⟨F, O, S, o, S', r, hf, k⟩ => by
  obtain ⟨m, S1, h1, h2⟩ := R.bind_ok hf
  cases h2
  exact ⟨F, O, S, m, S', r, h1, fun v H' F' O' st r' rm => k v H' _ _ (st.trans (frz_stp r'.bs)) r'.frzR (frz_rep r'.bs rm)⟩
def force : Ov → SS → Option (D × SS)
  | .d x, S => some (x, S)
  | .j i, S => match S.at i with
    | some m => some (m.toD, S.set i (some (.d m.toD)))
    | none => none
theorem force_ok {K : PySem.W.Frag} {H F : Hp} {O : OW} {σ : St} {S S' : SS} {v : V} {o : Ov} {d : D} (r : Rp K H F O σ S) (ro : RepOv K F σ v o) (h : force o S = some (d, S')) :
    ∃ F' O', Stp H F O H F' O' ∧ Rp K H F' O' σ S' ∧ RepD K F' v d := by
  cases o with
  | d x => cases h; exact ⟨F, O, Stp.refl _ _ _, r, ro⟩
  | j i =>
    have h' : (match S.at i with | some m => some (m.toD, S.set i (some (.d m.toD))) | none => none) = some (d, S') := h
    cases em : S.at i with
    | none => rw [em] at h'; cases h'
    | some m =>
      rw [em] at h'
      cases h'
      obtain ⟨w, hw, rm⟩ := r.sl i m em
      have z : σ[i]? = some (some v) := ro
      rw [hw] at z
      cases z
      exact ⟨_, _, frz_stp r.bs, r.frzSlot em, frz_rep r.bs rm⟩
def mE (f : FE) : FM := fun S => (f S).bind fun o S => match force o S with
  | some (d, S') => .ok (.d d) S'
  | none => .no
theorem dm_e {f : FE} (h : DE X f e) : DM X (mE f) e := PE.imp h fun σ H Q ⟨F, O, S, o, S', r, hf, k⟩ => by
  obtain ⟨m, S1, h1, h2⟩ := R.bind_ok hf
  refine ⟨F, O, S, m, S1, r, h1, fun v H' F' O' st r' rm => ?_⟩
  cases ef : force m S1 with
  | none => rw [ef] at h2; cases h2
  | some z =>
    obtain ⟨d, S2⟩ := z
    rw [ef] at h2
    cases h2
    obtain ⟨F2, O2, st2, r2, rd⟩ := force_ok r' rm ef
    exact k v H' F2 O2 (st.trans st2) r2 rd

/-! ### operations on two values -/
def OpD (X : Cx) (f : Value → Value → Sem Value) (g : D → D → Option M) : Prop :=
  ∃ r : R2, OpR X f r ∧ ∀ (H F : Hp) (v u : V) (x y : D) (m : M) (Q : VK), Le F H → View X.K H F v x → View X.K H F u y → g x y = some m → Wish X.K H F m Q → r v u H Q
def onD (g : D → D → Option M) (a b : Ov) (S : SS) : R M := match a.get S, b.get S with
  | some x, some y => (match g x y with
    | some m => .ok m S
    | none => .no)
  | _, _ => .no
theorem onD_ok {g : D → D → Option M} {a b : Ov} {S S' : SS} {m : M} (h : onD g a b S = .ok m S') : S' = S ∧ ∃ x y, a.get S = some x ∧ b.get S = some y ∧ g x y = some m := by
  unfold onD at h
  cases ea : a.get S with
  | none => rw [ea] at h; cases h
  | some x =>
    cases eb : b.get S with
    | none => rw [ea, eb] at h; cases h
    | some y =>
      rw [ea, eb] at h
      dsimp only at h
      cases eg : g x y with
      | none => rw [eg] at h; cases h
      | some m' => rw [eg] at h; cases h; exact ⟨rfl, x, y, rfl, rfl, eg⟩
def mBin (g : D → D → Option M) (fa fb : FE) : FM := fun S => (fa S).bind fun a S => (fb S).bind fun b S => onD g a b S
/-- both operands, then the operation's wish -/
theorem bin_rd {K : PySem.W.Frag} {g : D → D → Option M} {fa fb : FE} {r : R2} (hr : ∀ (H F : Hp) (v u : V) (x y : D) (m : M) (Q : VK), Le F H → View K H F v x → View K H F u y → g x y = some m → Wish K H F m Q → r v u H Q)
    {σ : St} {H : Hp} {Q : VK} (h : rdM K (mBin g fa fb) σ H Q) : tOp r (rdE K fa) (rdE K fb) σ H Q := by
  obtain ⟨F, O, S, m, S', rp, hf, k⟩ := h
  obtain ⟨a, S1, h1, h2⟩ := R.bind_ok hf
  obtain ⟨b, S2, h3, h4⟩ := R.bind_ok h2
  obtain ⟨e4, x, y, ex, ey, eg⟩ := onD_ok h4
  subst e4
  refine ⟨F, O, S, a, S1, rp, h1, fun v H1 F1 O1 st1 r1 ra => ⟨F1, O1, S1, b, S', r1, h3, fun u H2 F2 O2 st2 r2 rb => ?_⟩⟩
  refine hr H2 F2 v u x y m Q r2.bs.fh (r2.view (ra.mono st2.ff) ex) (r2.view rb ey) eg (r2.wish fun w H3 F3 O3 st3 r3 rm => ?_)
  exact k w H3 F3 O3 ((st1.trans st2).trans st3) r3 rm
theorem dm_bin {op : Operator} {g : D → D → Option M} {fa fb : FE} (ho : OpD X (binaryOp op) g) (ha : DE X fa a) (hb : DE X fb b) : DM X (mBin g fa fb) (.BinOp a op b pos) := by
  obtain ⟨r, hr, hs⟩ := ho
  exact PE.imp (pe_op hr ha hb) fun σ H Q h => bin_rd hs h
theorem dm_cmp {op : CmpOp} {g : D → D → Option M} {fa fb : FE} (ho : OpD X (compareOp op) g) (ha : DE X fa a) (hb : DE X fb b) (hm : behindInMarks op b = false) : DM X (mBin g fa fb) (.Compare a [op] [b] pos) := by
  obtain ⟨r, hr, hs⟩ := ho
  exact PE.imp (pe_cmpR hr ha hb hm) fun σ H Q h => bin_rd hs h
/-- a result that is a truth -/
def asB (m : M) (S : SS) : R Bool := match m with
  | .d (.bl b) => .ok b S
  | _ => .no
theorem asB_ok {m : M} {S S' : SS} {b : Bool} (h : asB m S = .ok b S') : m = .d (.bl b) ∧ S' = S := by
  unfold asB at h
  split at h
  · cases h; exact ⟨rfl, rfl⟩
  · cases h
def tM (f : FM) : FB := fun S => (f S).bind asB
theorem dt_cmp {op : CmpOp} {g : D → D → Option M} {fa fb : FE} (ho : OpD X (compareOp op) g) (ha : DE X fa a) (hb : DE X fb b) (hm : behindInMarks op b = false) : DT X (tM (mBin g fa fb)) (.Compare a [op] [b] pos) := by
  obtain ⟨r, hr, hs⟩ := ho
  refine PT.imp (pt_cmpR hr ha hb hm) fun σ H Q h => ?_
  obtain ⟨F, O, S, c, S', rp, hf, k⟩ := h
  obtain ⟨m, S1, h1, h2⟩ := R.bind_ok hf
  obtain ⟨em, eS⟩ := asB_ok h2
  subst em eS
  refine bin_rd (g := g) hs ⟨F, O, S, _, S', rp, h1, fun v H' F' O' st r' rm => ⟨c, ?_, k H' F' O' st r'⟩⟩
  cases (show RepD X.K F' v (.bl c) from rm)
  rfl
/-- a value that is a truth, as a test -/
theorem dt_val {f : FM} (h : DM X f e) (he : ∀ whole, isTrue e X.env whole = (do let v ← whole; standAt e.pos; holding [v] (truthy v)) := by intro _; rfl) : DT X (tM f) e := by
  refine PT.imp (pt_val h he) fun σ H Q h => ?_
  obtain ⟨F, O, S, c, S', rp, hf, k⟩ := h
  obtain ⟨m, S1, h1, h2⟩ := R.bind_ok hf
  obtain ⟨em, eS⟩ := asB_ok h2
  subst em eS
  refine ⟨F, O, S, _, S', rp, h1, fun v H' F' O' st r' rm => ⟨c, ?_, k H' F' O' st r'⟩⟩
  cases (show RepD X.K F' v (.bl c) from rm)
  rfl
/-! ### and, or, not -/
def tAnd' (f g : FB) : FB := fun S => (f S).bind fun c S => if c = true then g S else .ok false S
def tOr' (f g : FB) : FB := fun S => (f S).bind fun c S => if c = true then .ok true S else g S
def tNot' (f : FB) : FB := fun S => (f S).bind fun c S => .ok (!c) S
theorem dt_w {f : FB} (h : DW X f e) : DT X f e := PW.pt h
theorem dw_and1 {f : FB} (h : DT X f a) : DW X f (.BoolOp .And [a] pos) := pw_and1 h
theorem dw_or1 {f : FB} (h : DT X f a) : DW X f (.BoolOp .Or [a] pos) := pw_or1 h
theorem dw_and {f g : FB} {rest : List Expr} (ha : DT X f a) (hb : DW X g (.BoolOp .And (b :: rest) pos)) : DW X (tAnd' f g) (.BoolOp .And (a :: b :: rest) pos) := by
  refine PW.imp (pw_and ha hb) fun σ H Q h => ?_
  obtain ⟨F, O, S, c, S', rp, hf, k⟩ := h
  obtain ⟨d, S1, h1, h2⟩ := R.bind_ok hf
  refine ⟨F, O, S, d, S1, rp, h1, fun H' F' O' st r' => ?_⟩
  cases d with
  | true =>
    rw [if_pos rfl]
    rw [if_pos rfl] at h2
    exact ⟨F', O', S1, c, S', r', h2, fun H2 F2 O2 st2 r2 => k H2 F2 O2 (st.trans st2) r2⟩
  | false =>
    cases h2
    exact k H' F' O' st r'
theorem dw_or {f g : FB} {rest : List Expr} (ha : DT X f a) (hb : DW X g (.BoolOp .Or (b :: rest) pos)) : DW X (tOr' f g) (.BoolOp .Or (a :: b :: rest) pos) := by
  refine PW.imp (pw_or ha hb) fun σ H Q h => ?_
  obtain ⟨F, O, S, c, S', rp, hf, k⟩ := h
  obtain ⟨d, S1, h1, h2⟩ := R.bind_ok hf
  refine ⟨F, O, S, d, S1, rp, h1, fun H' F' O' st r' => ?_⟩
  cases d with
  | false =>
    show (if false = true then _ else _)
    rw [if_neg (by decide)]
    exact ⟨F', O', S1, c, S', r', h2, fun H2 F2 O2 st2 r2 => k H2 F2 O2 (st.trans st2) r2⟩
  | true =>
    cases h2
    exact k H' F' O' st r'
theorem dt_not {f : FB} (h : DT X f a) : DT X (tNot' f) (.UnaryOp .Not a pos) := by
  refine PT.imp (pt_not h) fun σ H Q h => ?_
  obtain ⟨F, O, S, c, S', rp, hf, k⟩ := h
  obtain ⟨d, S1, h1, h2⟩ := R.bind_ok hf
  cases h2
  exact ⟨F, O, S, d, S', rp, h1, k⟩
/-- .. as values -/
def vAnd (f g : FM) : FM := fun S => (f S).bind fun m S => (asB m S).bind fun c S => if c = true then g S else .ok (.d (.bl false)) S
def vOr (f g : FM) : FM := fun S => (f S).bind fun m S => (asB m S).bind fun c S => if c = true then .ok (.d (.bl true)) S else g S
def vNot (f : FM) : FM := fun S => (f S).bind fun m S => (asB m S).bind fun c S => .ok (.d (.bl (!c))) S
theorem dm_one {op : BoolOp} {f : FM} (h : DM X f a) : DM X f (.BoolOp op [a] pos) := pe_one h
theorem dm_and {f g : FM} {rest : List Expr} (ha : DM X f a) (hb : DM X g (.BoolOp .And (b :: rest) pos)) : DM X (vAnd f g) (.BoolOp .And (a :: b :: rest) pos) := by
  refine PE.imp (pe_and ha hb) fun σ H Q h => ?_
  obtain ⟨F, O, S, m, S', rp, hf, k⟩ := h
  obtain ⟨n, S1, h1, h2⟩ := R.bind_ok hf
  obtain ⟨c, S2, h3, h4⟩ := R.bind_ok h2
  obtain ⟨en, eS⟩ := asB_ok h3
  subst en eS
  refine ⟨F, O, S, _, S2, rp, h1, fun v H' F' O' st r' rm => ⟨c, by cases (show RepD X.K F' v (.bl c) from rm); rfl, ?_⟩⟩
  cases c with
  | true =>
    rw [if_pos rfl]
    rw [if_pos rfl] at h4
    exact ⟨F', O', S2, m, S', r', h4, fun u H2 F2 O2 st2 r2 rm2 => k u H2 F2 O2 (st.trans st2) r2 rm2⟩
  | false =>
    cases h4
    exact k _ H' F' O' st r' (.bl false)
theorem dm_or {f g : FM} {rest : List Expr} (ha : DM X f a) (hb : DM X g (.BoolOp .Or (b :: rest) pos)) : DM X (vOr f g) (.BoolOp .Or (a :: b :: rest) pos) := by
  refine PE.imp (pe_or ha hb) fun σ H Q h => ?_
  obtain ⟨F, O, S, m, S', rp, hf, k⟩ := h
  obtain ⟨n, S1, h1, h2⟩ := R.bind_ok hf
  obtain ⟨c, S2, h3, h4⟩ := R.bind_ok h2
  obtain ⟨en, eS⟩ := asB_ok h3
  subst en eS
  refine ⟨F, O, S, _, S2, rp, h1, fun v H' F' O' st r' rm => ⟨c, by cases (show RepD X.K F' v (.bl c) from rm); rfl, ?_⟩⟩
  cases c with
  | false =>
    show (if false = true then _ else _)
    rw [if_neg (by decide)]
    exact ⟨F', O', S2, m, S', r', h4, fun u H2 F2 O2 st2 r2 rm2 => k u H2 F2 O2 (st.trans st2) r2 rm2⟩
  | true =>
    cases h4
    exact k _ H' F' O' st r' (.bl true)
theorem dm_not {f : FM} (h : DM X f a) : DM X (vNot f) (.UnaryOp .Not a pos) := by
  refine PE.imp (pe_not h) fun σ H Q h => ?_
  obtain ⟨F, O, S, m, S', rp, hf, k⟩ := h
  obtain ⟨n, S1, h1, h2⟩ := R.bind_ok hf
  obtain ⟨c, S2, h3, h4⟩ := R.bind_ok h2
  obtain ⟨en, eS⟩ := asB_ok h3
  subst en eS
  cases h4
  refine ⟨F, O, S, M.d (.bl c), _, rp, h1, fun v H' F' O' st r' rm => ⟨c, by cases (show RepD X.K F' v (.bl c) from rm); rfl, k _ H' F' O' st r' (.bl _)⟩⟩
/-- a if t else b -/
def mIf (t : FB) (f g : FM) : FM := fun S => (t S).bind fun c S => if c = true then f S else g S
theorem dm_if {c : Expr} {t : FB} {f g : FM} (hc : DT X t c) (ha : DM X f a) (hb : DM X g b) : DM X (mIf t f g) (.IfExp c a b pos) := by
  refine PE.imp (pe_ifExp hc ha hb) fun σ H Q h => ?_
  obtain ⟨F, O, S, m, S', rp, hf, k⟩ := h
  obtain ⟨d, S1, h1, h2⟩ := R.bind_ok hf
  refine ⟨F, O, S, d, S1, rp, h1, fun H' F' O' st r' => ?_⟩
  cases d with
  | true =>
    rw [if_pos rfl]
    rw [if_pos rfl] at h2
    exact ⟨F', O', S1, m, S', r', h2, fun u H2 F2 O2 st2 r2 rm2 => k u H2 F2 O2 (st.trans st2) r2 rm2⟩
  | false =>
    show (if false = true then _ else _)
    rw [if_neg (by decide)]
    exact ⟨F', O', S1, m, S', r', h2, fun u H2 F2 O2 st2 r2 rm2 => k u H2 F2 O2 (st.trans st2) r2 rm2⟩

/-! ### argument lists, displays -/
def aNil : FA := fun S => .ok [] S
def aCons (f : FE) (g : FA) : FA := fun S => (f S).bind fun o S => (g S).bind fun os S => .ok (o :: os) S
theorem da_nil : DA X aNil [] := PA.imp pa_nil fun σ H Q ⟨F, O, S, os, S', r, hf, k⟩ => by
  cases hf
  exact k [] H F O (Stp.refl _ _ _) r .nil
theorem da_cons {f : FE} {g : FA} {es : List Expr} (ha : DE X f e) (hr : DA X g es) (hs : starEach (e :: es) X.env = (false, eval e X.env) :: starEach es X.env := by rfl) : DA X (aCons f g) (e :: es) := by
  refine PA.imp (pa_cons ha hr hs) fun σ H Q ⟨F, O, S, os, S', r, hf, k⟩ => ?_
  obtain ⟨o, S1, h1, h2⟩ := R.bind_ok hf
  obtain ⟨or, S2, h3, h4⟩ := R.bind_ok h2
  cases h4
  exact ⟨F, O, S, o, S1, r, h1, fun v H1 F1 O1 st1 r1 ro => ⟨F1, O1, S1, or, S', r1, h3, fun vs H2 F2 O2 st2 r2 rs => k (v :: vs) H2 F2 O2 (st1.trans st2) r2 (.cons (ro.mono st2.ff) rs)⟩⟩
def forceAll : List Ov → SS → Option (List D × SS)
  | [], S => some ([], S)
  | o :: os, S => match force o S with
    | some (d, S1) => (match forceAll os S1 with
      | some (ds, S2) => some (d :: ds, S2)
      | none => none)
    | none => none
theorem forceAll_ok {K : PySem.W.Frag} {H : Hp} {σ : St} : ∀ {vs : List V} {os : List Ov} {F : Hp} {O : OW} {S S' : SS} {ds : List D}, Rp K H F O σ S → RepOvs K F σ vs os → forceAll os S = some (ds, S') →
    ∃ F' O', Stp H F O H F' O' ∧ Rp K H F' O' σ S' ∧ RepDs K F' vs ds
  | [], _, F, O, S, S', ds, r, .nil, h => by cases h; exact ⟨F, O, Stp.refl _ _ _, r, .nil⟩
  | v :: vs, o :: os, F, O, S, S', ds, r, .cons ro rs, h => by
    have h' : (match force o S with | some (d, S1) => (match forceAll os S1 with | some (ds, S2) => some (d :: ds, S2) | none => none) | none => none) = some (ds, S') := h
    cases e1 : force o S with
    | none => rw [e1] at h'; cases h'
    | some z =>
      obtain ⟨d, S1⟩ := z
      rw [e1] at h'
      dsimp only at h'
      cases e2 : forceAll os S1 with
      | none => rw [e2] at h'; cases h'
      | some z2 =>
        obtain ⟨dr, S2⟩ := z2
        rw [e2] at h'
        cases h'
        obtain ⟨F1, O1, st1, r1, rd⟩ := force_ok r ro e1
        obtain ⟨F2, O2, st2, r2, rds⟩ := forceAll_ok r1 (rs.mono st1.ff) e2
        exact ⟨F2, O2, st1.trans st2, r2, .cons (rd.mono st2.ff) rds⟩
def line : Nat := 16777216
theorem line_eq : line = sizeLine := sizeLine_eq.symm
def dispF (mk : List D → M) (os : List Ov) (S : SS) : R M := match forceAll os S with
  | some (ds, S') => if ds.length ≤ line then .ok (mk ds) S' else .no
  | none => .no
def mTup (f : FA) : FM := fun S => (f S).bind (dispF fun ds => .d (.tup ds))
def mLst (f : FA) : FM := fun S => (f S).bind (dispF fun ds => .lst ds)
theorem disp_ok {mk : List D → M} {os : List Ov} {S S' : SS} {m : M} (h : dispF mk os S = .ok m S') : ∃ ds, forceAll os S = some (ds, S') ∧ ds.length ≤ sizeLine ∧ m = mk ds := by
  unfold dispF at h
  cases e : forceAll os S with
  | none => rw [e] at h; cases h
  | some z =>
    obtain ⟨ds, S1⟩ := z
    rw [e] at h
    dsimp only at h
    split at h
    · rename_i hl
      cases h
      exact ⟨ds, rfl, by rw [← line_eq]; exact hl, rfl⟩
    · cases h
theorem dm_tup {f : FA} {es : List Expr} {k : Nat} (h : DA X f es) : DM X (mTup f) (.Tuple es k pos) := by
  refine PE.imp (pe_tup h) fun σ H Q ⟨F, O, S, m, S', r, hf, k⟩ => ?_
  obtain ⟨os, S1, h1, h2⟩ := R.bind_ok hf
  obtain ⟨ds, e, hl, em⟩ := disp_ok h2
  refine ⟨F, O, S, os, S1, r, h1, fun vs H1 F1 O1 st1 r1 rs => ?_⟩
  obtain ⟨F2, O2, st2, r2, rd⟩ := forceAll_ok r1 rs e
  exact ⟨by rw [rd.len]; exact hl, fun p hp => (r2.wish fun v H3 F3 O3 st3 r3 rm => k v H3 F3 O3 ((st1.trans st2).trans st3) r3 rm).t ds p vs em hp rd⟩
theorem dm_lst {f : FA} {es : List Expr} (h : DA X f es) : DM X (mLst f) (.List es pos) := by
  refine PE.imp (pe_lst h) fun σ H Q ⟨F, O, S, m, S', r, hf, k⟩ => ?_
  obtain ⟨os, S1, h1, h2⟩ := R.bind_ok hf
  obtain ⟨ds, e, hl, em⟩ := disp_ok h2
  refine ⟨F, O, S, os, S1, r, h1, fun vs H1 F1 O1 st1 r1 rs => ?_⟩
  obtain ⟨F2, O2, st2, r2, rd⟩ := forceAll_ok r1 rs e
  exact ⟨by rw [rd.len]; exact hl, fun p hp => (r2.wish fun v H3 F3 O3 st3 r3 rm => k v H3 F3 O3 ((st1.trans st2).trans st3) r3 rm).l ds p vs em hp rd⟩
end

inductive Fl where
  | nx | rt (m : M) | bk | ct
abbrev FS := SS → R Fl
def Kp (kp : Nat → Bool) (σ σ' : St) : Prop := σ'.length = σ.length ∧ ∀ i, kp i = true → σ'[i]? = σ[i]?
theorem Kp.refl (kp : Nat → Bool) (σ : St) : Kp kp σ σ := ⟨rfl, fun _ _ => rfl⟩
theorem Kp.trans {kp : Nat → Bool} {σ σ1 σ2 : St} (a : Kp kp σ σ1) (b : Kp kp σ1 σ2) : Kp kp σ σ2 := ⟨b.1.trans a.1, fun i h => (b.2 i h).trans (a.2 i h)⟩
theorem Kp.set {kp : Nat → Bool} {σ : St} {i : Nat} {v : Option V} (h : kp i = false) : Kp kp σ (σ.set i v) := ⟨List.length_set, fun j hj => by
  rw [List.getElem?_set_ne]
  intro e
  subst e
  rw [h] at hj
  cases hj⟩
def rdF (K : PySem.W.Frag) (kp : Nat → Bool) (D : Ends) (σ : St) (H F : Hp) (O : OW) (S' : SS) : Fl → Prop
  | .nx => ∀ σ' H' F' O', Stp H F O H' F' O' → Rp K H' F' O' σ' S' → Kp kp σ σ' → D.nx σ' H'
  | .rt m => ∀ v σ' H' F' O', Stp H F O H' F' O' → Rp K H' F' O' σ' S' → Kp kp σ σ' → RepM K H' F' O' (.r, []) v m → D.rt v H'
  | .bk => ∀ σ' H' F' O', Stp H F O H' F' O' → Rp K H' F' O' σ' S' → Kp kp σ σ' → D.bk σ' H'
  | .ct => ∀ σ' H' F' O', Stp H F O H' F' O' → Rp K H' F' O' σ' S' → Kp kp σ σ' → D.ct σ' H'
theorem rdF.from {K : PySem.W.Frag} {kp : Nat → Bool} {D : Ends} {σ σ1 : St} {H F H1 F1 : Hp} {O O1 : OW} {S' : SS} {fl : Fl} (h : rdF K kp D σ H F O S' fl) (st : Stp H F O H1 F1 O1) (k : Kp kp σ σ1) : rdF K kp D σ1 H1 F1 O1 S' fl := by
  cases fl with
  | nx => exact fun σ' H' F' O' st' r kk => h σ' H' F' O' (st.trans st') r (k.trans kk)
  | rt m => exact fun v σ' H' F' O' st' r kk => h v σ' H' F' O' (st.trans st') r (k.trans kk)
  | bk => exact fun σ' H' F' O' st' r kk => h σ' H' F' O' (st.trans st') r (k.trans kk)
  | ct => exact fun σ' H' F' O' st' r kk => h σ' H' F' O' (st.trans st') r (k.trans kk)
def rdS (K : PySem.W.Frag) (kp : Nat → Bool) (f : FS) : TS := fun D σ H => ∃ F O S fl S', Rp K H F O σ S ∧ f S = .ok fl S' ∧ rdF K kp D σ H F O S' fl
abbrev DS (X : Cx) (kp : Nat → Bool) (f : FS) (st : Stmt) : Prop := PS X st (rdS X.K kp f)
abbrev DSs (X : Cx) (kp : Nat → Bool) (f : FS) (sts : List Stmt) : Prop := PSs X sts (rdS X.K kp f)

section
variable {X : Cx} {kp : Nat → Bool} {e a b : Expr} {pos : Pos} {st : Stmt} {rest : List Stmt} {f g : FS}
/-! ### blocks -/
def sNil : FS := fun S => .ok .nx S
def sSeq (f g : FS) : FS := fun S => (f S).bind fun fl S => match fl with
  | .nx => g S
  | .rt m => .ok (.rt m) S
  | .bk => .ok .bk S
  | .ct => .ok .ct S
theorem dss_nil : DSs X kp sNil [] := PSs.imp pss_nil fun D σ H ⟨F, O, S, fl, S', r, hf, k⟩ => by
  cases hf
  exact k σ H F O (Stp.refl _ _ _) r (Kp.refl _ _)
theorem seq_rd {K : PySem.W.Frag} {D : Ends} {σ : St} {H : Hp} (h : rdS K kp (sSeq f g) D σ H) : tSeq (rdS K kp f) (rdS K kp g) D σ H := by
  obtain ⟨F, O, S, fl, S', r, hf, k⟩ := h
  obtain ⟨f1, S1, h1, h2⟩ := R.bind_ok hf
  refine ⟨F, O, S, f1, S1, r, h1, ?_⟩
  cases f1 with
  | nx => exact fun σ1 H1 F1 O1 st1 r1 kk => ⟨F1, O1, S1, fl, S', r1, h2, k.from st1 kk⟩
  | rt m => cases h2; exact k
  | bk => cases h2; exact k
  | ct => cases h2; exact k
theorem dss_cons (h1 : DS X kp f st) (h2 : DSs X kp g rest) : DSs X kp (sSeq f g) (st :: rest) := PSs.imp (pss_cons h1 h2) fun D σ H h => seq_rd h
theorem dss_one (h1 : DS X kp f st) : DSs X kp f [st] := pss_one h1
theorem ds_pass : DS X kp sNil (.Pass pos) := PS.imp ps_pass fun D σ H ⟨F, O, S, fl, S', r, hf, k⟩ => by
  cases hf
  exact k σ H F O (Stp.refl _ _ _) r (Kp.refl _ _)
theorem ds_doc {x : Str} {j : Nat} {pos' : Pos} : DS X kp sNil (.Expr (.Constant (.str x) j pos) pos') := PS.imp ps_doc fun D σ H ⟨F, O, S, fl, S', r, hf, k⟩ => by
  cases hf
  exact k σ H F O (Stp.refl _ _ _) r (Kp.refl _ _)
def sBrk : FS := fun S => .ok .bk S
def sCnt : FS := fun S => .ok .ct S
theorem ds_brk : DS X kp sBrk (.Break pos) := PS.imp ps_break fun D σ H ⟨F, O, S, fl, S', r, hf, k⟩ => by
  cases hf
  exact k σ H F O (Stp.refl _ _ _) r (Kp.refl _ _)
theorem ds_cnt : DS X kp sCnt (.Continue pos) := PS.imp ps_continue fun D σ H ⟨F, O, S, fl, S', r, hf, k⟩ => by
  cases hf
  exact k σ H F O (Stp.refl _ _ _) r (Kp.refl _ _)
/-- what is not reached, or not served -/
def sNo : FS := fun _ => .no
theorem ds_no : DS X kp sNo st := ⟨fun _ _ _ _ _ _ ⟨_, _, _, _, _, _, h, _⟩ => by cases h⟩
theorem dss_no {sts : List Stmt} : DSs X kp sNo sts := ⟨fun _ _ _ _ _ _ ⟨_, _, _, _, _, _, h, _⟩ => by cases h⟩
def eNo {α : Type} : SS → R α := fun _ => .no
theorem de_no : DE X eNo e := ⟨fun _ _ _ _ _ _ ⟨_, _, _, _, _, _, h, _⟩ => by cases h⟩
theorem dm_no : DM X eNo e := ⟨fun _ _ _ _ _ _ ⟨_, _, _, _, _, _, h, _⟩ => by cases h⟩
theorem dt_no : DT X eNo e := ⟨fun _ _ _ _ _ _ ⟨_, _, _, _, _, _, h, _⟩ => by cases h⟩

def sExpr (f : FM) : FS := fun S => (f S).bind fun _ S => .ok .nx S
theorem ds_expr {f : FM} (h : DM X f e) (hs : swapsWith e none pos.line X.env = pure false := by rfl) : DS X kp (sExpr f) (.Expr e pos) := PS.imp (ps_expr h hs) fun D σ H ⟨F, O, S, fl, S', r, hf, k⟩ => by
  obtain ⟨m, S1, h1, h2⟩ := R.bind_ok hf
  cases h2
  exact ⟨F, O, S, m, S', r, h1, fun v H1 F1 O1 st1 r1 _ => k σ H1 F1 O1 st1 r1 (Kp.refl _ _)⟩
def sRet (f : FM) : FS := fun S => (f S).bind fun m S => .ok (.rt m) S
theorem ds_ret {f : FM} (h : DM X f e) : DS X kp (sRet f) (.Return (some e) pos) := PS.imp (ps_ret h) fun D σ H ⟨F, O, S, fl, S', r, hf, k⟩ => by
  obtain ⟨m, S1, h1, h2⟩ := R.bind_ok hf
  cases h2
  exact ⟨F, O, S, m, S', r, h1, fun v H1 F1 O1 st1 r1 rm => k v σ H1 F1 O1 st1 r1 (Kp.refl _ _) rm⟩
def sRetN : FS := fun S => .ok (.rt (.d .non)) S
theorem ds_retN : DS X kp sRetN (.Return none pos) := PS.imp ps_retN fun D σ H ⟨F, O, S, fl, S', r, hf, k⟩ => by
  cases hf
  exact k .non σ H F O (Stp.refl _ _ _) r (Kp.refl _ _) .non
def sIf (t : FB) (f g : FS) : FS := fun S => (t S).bind fun c S => if c = true then f S else g S
theorem ds_if {c : Expr} {t : FB} {sa sb : List Stmt} (hc : DT X t c) (ha : DSs X kp f sa) (hb : DSs X kp g sb) : DS X kp (sIf t f g) (.If c sa sb pos) := PS.imp (ps_if hc ha hb) fun D σ H ⟨F, O, S, fl, S', r, hf, k⟩ => by
  obtain ⟨d, S1, h1, h2⟩ := R.bind_ok hf
  refine ⟨F, O, S, d, S1, r, h1, fun H1 F1 O1 st1 r1 => ?_⟩
  cases d with
  | true =>
    rw [if_pos rfl]
    rw [if_pos rfl] at h2
    exact ⟨F1, O1, S1, fl, S', r1, h2, k.from st1 (Kp.refl _ _)⟩
  | false =>
    show (if false = true then _ else _)
    rw [if_neg (by decide)]
    exact ⟨F1, O1, S1, fl, S', r1, h2, k.from st1 (Kp.refl _ _)⟩

/-! ### a root takes another's things -/
def mvO (q q' : Rt) (O : OW) : OW := fun a => match O a with
  | some (z, p) => if z = q then some (q', p) else if z = q' then none else some (z, p)
  | none => none
section
variable {K : PySem.W.Frag} {H F : Hp} {O : OW} {q q' : Rt} {σ : St} {S : SS}
theorem mvO_some {a : Addr} {z : Pl} (h : mvO q q' O a = some z) : ∃ z', O a = some z' := by
  unfold mvO at h
  cases e : O a with
  | none => rw [e] at h; cases h
  | some z' => exact ⟨z', rfl⟩
theorem mv_bs (b : Bs H F O) : Bs H F (mvO q q' O) := ⟨b.fh, fun a z h => by
  obtain ⟨z', e⟩ := mvO_some h
  exact b.fo a z' e⟩
theorem mv_stp : Stp H F O H F (mvO q q' O) := ⟨Le.refl _, fun _ _ h _ => h, fun a z h => .inl (mvO_some h), fun a o h => .inl h, fun _ o h => ⟨o, h⟩⟩
theorem mv_rep {p : List Str} {v : V} {m : M} (h : RepM K H F O (q, p) v m) : RepM K H F (mvO q q' O) (q', p) v m :=
  h.move (Le.refl _) fun a o e1 e2 => ⟨e2, by unfold mvO; rw [e1]; dsimp only; rw [if_pos rfl]⟩
theorem mv_other {z : Rt} {p : List Str} {v : V} {m : M} (h : RepM K H F O (z, p) v m) (n1 : z ≠ q) (n2 : z ≠ q') : RepM K H F (mvO q q' O) (z, p) v m :=
  h.stay (Le.refl _) fun a o e1 e2 => ⟨e2, by unfold mvO; rw [e1]; dsimp only; rw [if_neg n1, if_neg n2]⟩
/-- the result is put into a slot -/
theorem Rp.put {i : Nat} {v : V} {m : M} (r : Rp K H F O σ S) (rm : RepM K H F O (.r, []) v m) : Rp K H F (mvO .r (.s i) O) (σ.set i (some v)) (S.set i (some m)) := by
  refine ⟨mv_bs r.bs, by rw [List.length_set, List.length_set]; exact r.len, fun j x h => ?_⟩
  rcases SS.at_set h with ⟨e1, e2⟩ | ⟨ne, h⟩
  · subst e1
    cases e2
    have hl : i < σ.length := by
      rw [← r.len]
      unfold SS.at at h
      by_cases z : i < S.length
      · exact z
      · rw [List.getElem?_eq_none (by simpa using z)] at h; cases h
    exact ⟨v, by rw [List.getElem?_set_self hl], mv_rep rm⟩
  · obtain ⟨w, hw, rw'⟩ := r.sl j x h
    exact ⟨w, by rw [List.getElem?_set_ne ne]; exact hw, mv_other rw' (fun z => by cases z) (fun z => ne (by cases z; rfl))⟩
/-- a slot is forgotten -/
theorem Rp.drop {i : Nat} (r : Rp K H F O σ S) : Rp K H F O σ (S.set i none) := by
  refine ⟨r.bs, by rw [List.length_set]; exact r.len, fun j x h => ?_⟩
  rcases SS.at_set h with ⟨e1, e2⟩ | ⟨ne, h⟩
  · cases e2
  · exact r.sl j x h
/-- a slot gives its thing as a result -/
theorem Rp.give {i : Nat} {m : M} (r : Rp K H F O σ S) (e : S.at i = some m) : ∃ v, σ[i]? = some (some v) ∧ Rp K H F (mvO (.s i) .r O) σ (S.set i none) ∧ RepM K H F (mvO (.s i) .r O) (.r, []) v m := by
  obtain ⟨v, hv, rm⟩ := r.sl i m e
  refine ⟨v, hv, ⟨mv_bs r.bs, by rw [List.length_set]; exact r.len, fun j x h => ?_⟩, mv_rep rm⟩
  rcases SS.at_set h with ⟨e1, e2⟩ | ⟨ne, h⟩
  · cases e2
  · obtain ⟨w, hw, rw'⟩ := r.sl j x h
    exact ⟨w, hw, mv_other rw' (fun z => ne (by cases z; rfl)) (fun z => by cases z)⟩
end
/-! ### a name is stored -/
def sSet (i : Nat) (f : FM) : FS := fun S => (f S).bind fun m S => .ok .nx (S.set i (some m))
theorem set_rd {K : PySem.W.Frag} {i : Nat} {f : FM} {te : TE} (hk : kp i = false) (ht : ∀ σ H Q, rdM K f σ H Q → te σ H Q) {D : Ends} {σ : St} {H : Hp} (h : rdS K kp (sSet i f) D σ H) : tAsg te (gName i) D σ H := by
  obtain ⟨F, O, S, fl, S', r, hf, k⟩ := h
  obtain ⟨m, S1, h1, h2⟩ := R.bind_ok hf
  cases h2
  exact ht _ _ _ ⟨F, O, S, m, S1, r, h1, fun v H1 F1 O1 st1 r1 rm => k _ H1 F1 _ (st1.trans mv_stp) (r1.put rm) (Kp.set hk)⟩
theorem ds_set {i : Nat} {x : Str} {f : FM} {pos' : Pos} (hN : X.N.Nodup) (hi : X.N[i]? = some x) (hx : Loc X.env.scope x) (hk : kp i = false) (h : DM X f e)
    (hs : swapsWith e (some (.Name x pos')) pos.line X.env = pure false := by rfl) (hf : X.fn x = true ∨ X.env.scope.names.lookup x = some .local := by first | exact .inl rfl | exact .inr rfl | assumption) :
    DS X kp (sSet i f) (.Assign [.Name x pos'] e pos) := PS.imp (ps_set hN hi hx h hs hf) fun D σ H h => set_rd hk (fun _ _ _ q => q) h
/-- return of a name: its thing goes along -/
def sRetV (i : Nat) : FS := fun S => match S.at i with
  | some m => .ok (.rt m) (S.set i none)
  | none => .no
theorem ds_retV {i : Nat} (h : PE X e (tVar i)) : DS X kp (sRetV i) (.Return (some e) pos) := PS.imp (ps_ret h) fun D σ H ⟨F, O, S, fl, S', r, hf, k⟩ => by
  unfold sRetV at hf
  cases em : S.at i with
  | none => rw [em] at hf; cases hf
  | some m =>
    rw [em] at hf
    cases hf
    obtain ⟨v, hv, r1, rm⟩ := r.give em
    exact ⟨v, hv, k v σ H F _ mv_stp r1 (Kp.refl _ _) rm⟩

/-! ### targets -/
abbrev FG := D → SS → Option SS
abbrev FGs := List D → SS → Option SS
def rdG (K : PySem.W.Frag) (kp : Nat → Bool) (g : FG) : TG := fun v σ H Q => ∃ F O S d S', Rp K H F O σ S ∧ RepD K F v d ∧ g d S = some S' ∧
  ∀ σ' F' O', Stp H F O H F' O' → Rp K H F' O' σ' S' → Kp kp σ σ' → Q σ' H
def rdGs (K : PySem.W.Frag) (kp : Nat → Bool) (g : FGs) : TGs := fun vs σ H Q => ∃ F O S ds S', Rp K H F O σ S ∧ RepDs K F vs ds ∧ g ds S = some S' ∧
  ∀ σ' F' O', Stp H F O H F' O' → Rp K H F' O' σ' S' → Kp kp σ σ' → Q σ' H
theorem PG.imp {X : Cx} {e : Expr} {t t' : TG} (h : PG X e t) (hm : ∀ v σ H Q, t' v σ H Q → t v σ H Q) : PG X e t' := ⟨fun pins s σ H v u Q I r q => h.run pins s σ H v u Q I r (hm v σ H Q q)⟩
theorem PGs.imp {X : Cx} {e : List Expr} {t t' : TGs} (h : PGs X e t) (hm : ∀ v σ H Q, t' v σ H Q → t v σ H Q) : PGs X e t' := ⟨fun pins s σ H v u Q I r q => h.run pins s σ H v u Q I r (hm v σ H Q q)⟩
abbrev DG (X : Cx) (kp : Nat → Bool) (g : FG) (e : Expr) : Prop := PG X e (rdG X.K kp g)
abbrev DGs (X : Cx) (kp : Nat → Bool) (g : FGs) (e : List Expr) : Prop := PGs X e (rdGs X.K kp g)
def gN (i : Nat) : FG := fun d S => some (S.set i (some (.d d)))
theorem Rp.putD {K : PySem.W.Frag} {H F : Hp} {O : OW} {σ : St} {S : SS} {i : Nat} {v : V} {d : D} (r : Rp K H F O σ S) (rd : RepD K F v d) : Rp K H F O (σ.set i (some v)) (S.set i (some (.d d))) := by
  refine ⟨r.bs, by rw [List.length_set, List.length_set]; exact r.len, fun j x h => ?_⟩
  rcases SS.at_set h with ⟨e1, e2⟩ | ⟨ne, h⟩
  · subst e1
    cases e2
    have hl : i < σ.length := by
      rw [← r.len]
      unfold SS.at at h
      by_cases z : i < S.length
      · exact z
      · rw [List.getElem?_eq_none (by simpa using z)] at h; cases h
    exact ⟨v, by rw [List.getElem?_set_self hl], rd⟩
  · obtain ⟨w, hw, rw'⟩ := r.sl j x h
    exact ⟨w, by rw [List.getElem?_set_ne ne]; exact hw, rw'⟩
theorem dg_n {i : Nat} (hk : kp i = false) (h : PG X e (gName i)) : DG X kp (gN i) e := PG.imp h fun v σ H Q ⟨F, O, S, d, S', r, rd, hg, k⟩ => by
  cases hg
  exact k _ F O (Stp.refl _ _ _) (r.putD rd) (Kp.set hk)
def gsNil : FGs := fun ds S => match ds with
  | [] => some S
  | _ => none
def gsCons (g : FG) (gs : FGs) : FGs := fun ds S => match ds with
  | [] => none
  | d :: ds => match g d S with
    | some S1 => gs ds S1
    | none => none
theorem dgs_nil : DGs X kp gsNil [] := PGs.imp pgs_nil fun vs σ H Q ⟨F, O, S, ds, S', r, rd, hg, k⟩ => by
  cases rd with
  | nil => cases hg; exact ⟨rfl, k σ F O (Stp.refl _ _ _) r (Kp.refl _ _)⟩
  | cons _ _ => cases hg
theorem dgs_cons {es : List Expr} {g : FG} {gs : FGs} (h1 : DG X kp g e) (h2 : DGs X kp gs es) (hs : (assignEach (e :: es) X.env).map (·.2) = assign e X.env :: (assignEach es X.env).map (·.2) := by rfl) : DGs X kp (gsCons g gs) (e :: es) :=
  PGs.imp (pgs_cons h1 h2 hs) fun vs σ H Q ⟨F, O, S, ds, S', r, rd, hg, k⟩ => by
    cases rd with
    | nil => cases hg
    | @cons v vs d ds rd rds =>
      have hg : (match g d S with | some S1 => gs ds S1 | none => none) = some S' := hg
      cases e1 : g d S with
      | none => rw [e1] at hg; cases hg
      | some S1 =>
        rw [e1] at hg
        exact ⟨v, vs, rfl, F, O, S, d, S1, r, rd, e1, fun σ1 F1 O1 st1 r1 k1 => ⟨F1, O1, S1, ds, S', r1, rds.mono st1.ff, hg, fun σ2 F2 O2 st2 r2 k2 => k σ2 F2 O2 (st1.trans st2) r2 (k1.trans k2)⟩⟩
def gT (n : Nat) (gs : FGs) : FG := fun d S => match d with
  | .tup ds => if ds.length = n then gs ds S else none
  | _ => none
theorem dg_t {es : List Expr} {k n : Nat} {gs : FGs} (hc : X.calm = true) (h : DGs X kp gs es) (hn : (assignEach es X.env).length = n := by rfl) (hst : (assignEach es X.env).findIdx? (·.1) = none := by rfl) : DG X kp (gT n gs) (.Tuple es k pos) :=
  PG.imp (pg_tup hc h hn hst) fun v σ H Q ⟨F, O, S, d, S', r, rd, hg, k⟩ => by
    cases d with
    | tup ds =>
      have hg : (if ds.length = n then gs ds S else none) = some S' := hg
      cases rd with
      | @tup a vs _ ht rds =>
        by_cases hl : ds.length = n
        · rw [if_pos hl] at hg
          exact ⟨a, vs, rfl, r.bs.fh.st ht, by rw [rds.len]; exact hl, F, O, S, ds, S', r, rds, hg, k⟩
        · rw [if_neg hl] at hg; cases hg
    | _ => cases hg
/-- target = value -/
def sAsg (f : FE) (g : FG) : FS := fun S => (f S).bind fun o S => match force o S with
  | some (d, S1) => (match g d S1 with
    | some S2 => .ok .nx S2
    | none => .no)
  | none => .no
theorem ds_asg {tg : Expr} {f : FE} {g : FG} (he : DE X f e) (hg : DG X kp g tg) (hs : swapsWithSole [tg] e pos.line X.env = pure false := by rfl) (hw : swappedStores [tg] e X.env = pure none := by rfl)
    (h1 : (assignEach [tg] X.env).map (·.2) = [assign tg X.env] := by rfl) : DS X kp (sAsg f g) (.Assign [tg] e pos) := PS.imp (ps_asg he hg hs hw h1) fun D σ H ⟨F, O, S, fl, S', r, hf, k⟩ => by
  obtain ⟨o, S1, h1, h2⟩ := R.bind_ok hf
  refine ⟨F, O, S, o, S1, r, h1, fun v H1 F1 O1 st1 r1 ro => ?_⟩
  cases ef : force o S1 with
  | none => rw [ef] at h2; cases h2
  | some z =>
    obtain ⟨d, S2⟩ := z
    rw [ef] at h2
    dsimp only at h2
    cases eg : g d S2 with
    | none => rw [eg] at h2; cases h2
    | some S3 =>
      rw [eg] at h2
      cases h2
      obtain ⟨F2, O2, st2, r2, rd⟩ := force_ok r1 ro ef
      exact ⟨F2, O2, S2, d, S', r2, rd, eg, fun σ3 F3 O3 st3 r3 kk => k σ3 H1 F3 O3 ((st1.trans st2).trans st3) r3 kk⟩
end

abbrev FI := SS → R (List D)
structure Walks (K : PySem.W.Frag) (J : It) (ds : List D) (F : Hp) : Prop where
  go : ∀ i H F', Le F F' → Le F' H → i < ds.length → J.go i H
  yld : ∀ i H F' O σ S x H', Rp K H F' O σ S → Le F F' → i < ds.length → J.yld i H x H' → ∃ F'', Stp H F' O H' F'' O ∧ Rp K H' F'' O σ S ∧ ∀ d, ds[i]? = some d → RepD K F'' x d
  stop : ∀ H F', Le F F' → Le F' H → J.stop ds.length H
theorem PI.imp {X : Cx} {tg iter : Expr} {w w' : TI} (h : PI X tg iter w) (hm : ∀ σ H R, w' σ H R → w σ H R) : PI X tg iter w' := ⟨fun pins s σ H R I q => h.run pins s σ H R I (hm σ H R q)⟩
theorem PI.or {X : Cx} {tg iter : Expr} {w w' : TI} (h : PI X tg iter w) (h' : PI X tg iter w') : PI X tg iter (fun σ H R => w σ H R ∨ w' σ H R) := ⟨fun pins s σ H R I q => by
  rcases q with q | q
  · exact h.run pins s σ H R I q
  · exact h'.run pins s σ H R I q⟩
def rdI (K : PySem.W.Frag) (f : FI) : TI := fun σ H R' => ∃ F O S ds S', Rp K H F O σ S ∧ f S = .ok ds S' ∧
  ∀ J H' F' O', Stp H F O H' F' O' → Rp K H' F' O' σ S' → Walks K J ds F' → R' J H'
abbrev DI (X : Cx) (f : FI) (iter : Expr) : Prop := ∀ tg, PI X tg iter (rdI X.K f)

section
variable {K : PySem.W.Frag} {F : Hp}
theorem walks_list {a : Addr} {vs : List V} {ds : List D} (h : Rd F a (.lst vs)) (r : RepDs K F vs ds) : Walks K (Itl K a) ds F := by
  refine ⟨fun i H F' l1 l2 hi => ?_, fun i H F' O σ S x H' rp l1 hi y => ?_, fun H F' l1 l2 => ?_⟩
  · have hi' : i < vs.length := by rw [r.len]; exact hi
    exact ⟨vs, vs[i], .inl ((l1.trans l2).rd h), List.getElem?_eq_getElem hi'⟩
  · obtain ⟨e, y⟩ := y
    subst e
    refine ⟨F', Stp.refl _ _ _, rp, fun d hd => ?_⟩
    have y2 := y vs (.inl ((l1.trans rp.bs.fh).rd h))
    obtain ⟨d', hd', rd⟩ := r.getV y2
    rw [hd] at hd'
    cases hd'
    exact rd.mono l1
  · exact ⟨vs, .inl ((l1.trans l2).rd h), Nat.le_of_eq r.len⟩
theorem walks_tup {a : Addr} {vs : List V} {ds : List D} (h : SqT K F a vs) (r : RepDs K F vs ds) : Walks K (Itt K a) ds F := by
  refine ⟨fun i H F' l1 l2 hi => ?_, fun i H F' O σ S x H' rp l1 hi y => ?_, fun H F' l1 l2 => ?_⟩
  · have hi' : i < vs.length := by rw [r.len]; exact hi
    exact ⟨vs, vs[i], (l1.trans l2).st h, List.getElem?_eq_getElem hi'⟩
  · obtain ⟨e, y⟩ := y
    subst e
    refine ⟨F', Stp.refl _ _ _, rp, fun d hd => ?_⟩
    have y2 := y vs ((l1.trans rp.bs.fh).st h)
    obtain ⟨d', hd', rd⟩ := r.getV y2
    rw [hd] at hd'
    cases hd'
    exact rd.mono l1
  · exact ⟨vs, (l1.trans l2).st h, Nat.le_of_eq r.len⟩
/-- lo, lo + 1, .. -/
def rangeD (lo : Int) (n : Nat) : List D := (List.range n).map fun (k : Nat) => .int (lo + (k : Int))
theorem walks_range {lo : Int} {n : Nat} : Walks K (Itr lo n) (rangeD lo n) F := by
  have hl : (rangeD lo n).length = n := by unfold rangeD; rw [List.length_map, List.length_range]
  refine ⟨fun i H F' l1 l2 hi => ?_, fun i H F' O σ S x H' rp l1 hi y => ?_, fun H F' l1 l2 => ?_⟩
  · rw [hl] at hi; exact hi
  · obtain ⟨e, y⟩ := y
    subst e y
    refine ⟨F', Stp.refl _ _ _, rp, fun d hd => ?_⟩
    unfold rangeD at hd
    rw [List.getElem?_map, List.getElem?_range (by rw [hl] at hi; exact hi)] at hd
    cases hd
    exact .int _
  · show n ≤ (rangeD lo n).length
    rw [hl]; exact Nat.le_refl _
theorem di_any {X : Cx} {f : FI} {tg iter : Expr} (h : DI X f iter) : PI X tg iter (rdI X.K f) := h tg
/-- the signs of a text -/
def strSeq (x : Str) : List D := x.cps.toList.map fun c => .str ⟨#[c]⟩
theorem walks_str {x : Str} : Walks K (Its x) (strSeq x) F := by
  have hl : (strSeq x).length = x.cps.size := by unfold strSeq; simp
  refine ⟨fun i H F' l1 l2 hi => ?_, fun i H F' O σ S v H' rp l1 hi y => ?_, fun H F' l1 l2 => ?_⟩
  · rw [hl] at hi; exact hi
  · obtain ⟨e, c, hc, ev⟩ := y
    subst e ev
    refine ⟨F', Stp.refl _ _ _, rp, fun d hd => ?_⟩
    unfold strSeq at hd
    rw [List.getElem?_map, Array.getElem?_toList, hc] at hd
    cases hd
    exact .str _
  · show x.cps.size ≤ (strSeq x).length
    rw [hl]; exact Nat.le_refl _
/-- two lists or two tuples, side by side -/
theorem walks_pair {J : It} {xs ys : List V} {ds es : List D} (hd : RepDs K F xs ds) (he : RepDs K F ys es)
    (hgo : ∀ i H F', Le F F' → Le F' H → i < xs.length → i < ys.length → J.go i H)
    (hy : ∀ i H F' v H', Le F F' → Le F' H → J.yld i H v H' → ∃ T x y, v = .ref T ∧ H T = none ∧ H' = upd H T (.tup [x, y]) ∧ xs[i]? = some x ∧ ys[i]? = some y)
    (hst : ∀ i H F', Le F F' → Le F' H → (xs.length ≤ i ∨ ys.length ≤ i) → J.stop i H) : Walks K J (List.zipWith (fun x y => .tup [x, y]) ds es) F := by
  have hl : (List.zipWith (fun x y => D.tup [x, y]) ds es).length = min xs.length ys.length := by rw [List.length_zipWith, hd.len, he.len]
  refine ⟨fun i H F' l1 l2 hi => ?_, fun i H F' O σ S v H' rp l1 hi y => ?_, fun H F' l1 l2 => ?_⟩
  · rw [hl] at hi; exact hgo i H F' l1 l2 (by omega) (by omega)
  · obtain ⟨T, x, z, ev, hT, eH, hx, hy⟩ := hy i H F' v H' l1 rp.bs.fh y
    subst ev eH
    obtain ⟨st, r⟩ := rp.layF (o := .tup [x, z]) hT
    refine ⟨_, st, r, fun d hd' => ?_⟩
    obtain ⟨d1, e1, r1⟩ := hd.getV hx
    obtain ⟨d2, e2, r2⟩ := he.getV hy
    rw [List.getElem?_zipWith, e1, e2] at hd'
    cases hd'
    exact .tup (.inl (.inl upd_same)) (.cons (r1.mono (l1.trans st.ff)) (.cons (r2.mono (l1.trans st.ff)) .nil))
  · rw [hl]; exact hst _ H F' l1 l2 (by omega)
end
section
variable {X : Cx} {kp : Nat → Bool} {e a b : Expr} {pos : Pos} {st : Stmt} {rest : List Stmt} {f g : FS}
/-- a list, a tuple or a text, walked -/
def iSeq (f : FE) : FI := fun S => (f S).bind fun o S => match force o S with
  | some (.lst ds, S1) => .ok ds S1
  | some (.tup ds, S1) => .ok ds S1
  | some (.str x, S1) => .ok (strSeq x) S1
  | _ => .no
theorem di_seq {f : FE} (h : DE X f e) : DI X (iSeq f) e := fun tg => by
  refine PI.imp (PI.or (pi_list h) (PI.or (pi_tup h) (pi_str h))) fun σ H R' ⟨F, O, S, ds, S', r, hf, k⟩ => ?_
  obtain ⟨o, S1, h1, h2⟩ := R.bind_ok hf
  cases ef : force o S1 with
  | none => rw [ef] at h2; cases h2
  | some z =>
    obtain ⟨d, S2⟩ := z
    rw [ef] at h2
    cases d with
    | lst xs =>
      cases h2
      refine .inl ⟨F, O, S, o, S1, r, h1, fun v H1 F1 O1 st1 r1 ro => ?_⟩
      obtain ⟨F2, O2, st2, r2, rd⟩ := force_ok r1 ro ef
      cases rd with
      | @lst a vs _ hs rds => exact ⟨a, rfl, ⟨vs, .inl (r2.bs.fh.rd hs)⟩, k _ H1 F2 O2 (st1.trans st2) r2 (walks_list hs rds)⟩
    | tup xs =>
      cases h2
      refine .inr (.inl ⟨F, O, S, o, S1, r, h1, fun v H1 F1 O1 st1 r1 ro => ?_⟩)
      obtain ⟨F2, O2, st2, r2, rd⟩ := force_ok r1 ro ef
      cases rd with
      | @tup a vs _ hs rds => exact ⟨a, rfl, ⟨vs, r2.bs.fh.st hs⟩, k _ H1 F2 O2 (st1.trans st2) r2 (walks_tup hs rds)⟩
    | str x =>
      cases h2
      refine .inr (.inr ⟨F, O, S, o, S1, r, h1, fun v H1 F1 O1 st1 r1 ro => ?_⟩)
      obtain ⟨F2, O2, st2, r2, rd⟩ := force_ok r1 ro ef
      cases rd with
      | str _ => exact ⟨x, rfl, k _ H1 F2 O2 (st1.trans st2) r2 walks_str⟩
    | _ => cases h2
def iRng1 (f : FE) : FI := fun S => (f S).bind fun o S => match o.get S with
  | some (.int j) => if -4611686018427387904 ≤ j ∧ j < 4611686018427387904 then .ok (rangeD 0 j.toNat) S else .no
  | _ => .no
theorem di_rng1 {f : FE} {p : Pos} (hg : Gl X "range") (hm : X.mg "range" = none) (h : DE X f a) (hs : starEach [a] X.env = [(false, eval a X.env)] := by rfl) (hs2 : starEach [a] X.env = (false, eval a X.env) :: starEach [] X.env := by rfl) : DI X (iRng1 f) (.Call (.Name "range" p) [a] [] pos) := fun tg => by
  refine PI.imp (pi_range1 hg hm (pa_cons h pa_nil hs2) hs) fun σ H R' ⟨F, O, S, ds, S', r, hf, k⟩ => ?_
  obtain ⟨o, S1, h1, h2⟩ := R.bind_ok hf
  refine ⟨F, O, S, o, S1, r, h1, fun v H1 F1 O1 st1 r1 ro => ?_⟩
  cases eg : o.get S1 with
  | none => rw [eg] at h2; cases h2
  | some d =>
    rw [eg] at h2
    cases d with
    | int j =>
      dsimp only at h2
      split at h2
      · rename_i hb
        cases h2
        obtain rfl := (r1.view ro eg).int
        exact ⟨j, rfl, hb.1, hb.2, k _ H1 F1 O1 st1 r1 walks_range⟩
      · cases h2
    | _ => cases h2
def iRng2 (f g : FE) : FI := fun S => (f S).bind fun o S => (g S).bind fun p S => match o.get S, p.get S with
  | some (.int i), some (.int j) => if (-4611686018427387904 ≤ i ∧ i < 4611686018427387904) ∧ -4611686018427387904 ≤ j ∧ j < 4611686018427387904 then .ok (rangeD i (j - i).toNat) S else .no
  | _, _ => .no
theorem di_rng2 {f g : FE} {p : Pos} (hg : Gl X "range") (hm : X.mg "range" = none) (ha : DE X f a) (hb : DE X g b) (hs : starEach [a, b] X.env = [(false, eval a X.env), (false, eval b X.env)] := by rfl) (hs2 : starEach [b] X.env = [(false, eval b X.env)] := by rfl)
    (hs3 : starEach [a, b] X.env = (false, eval a X.env) :: starEach [b] X.env := by rfl) (hs4 : starEach [b] X.env = (false, eval b X.env) :: starEach [] X.env := by rfl) : DI X (iRng2 f g) (.Call (.Name "range" p) [a, b] [] pos) := fun tg => by
  refine PI.imp (pi_range2 hg hm (pa_cons ha (pa_cons hb pa_nil hs4) hs3) hs hs2) fun σ H R' ⟨F, O, S, ds, S', r, hf, k⟩ => ?_
  obtain ⟨o, S1, h1, h2⟩ := R.bind_ok hf
  obtain ⟨p', S2, h3, h4⟩ := R.bind_ok h2
  refine ⟨F, O, S, o, S1, r, h1, fun v H1 F1 O1 st1 r1 ro => ⟨F1, O1, S1, p', S2, r1, h3, fun w H2 F2 O2 st2 r2 rp => ?_⟩⟩
  cases eg : o.get S2 with
  | none => rw [eg] at h4; cases h4
  | some d =>
    cases eg2 : p'.get S2 with
    | none => rw [eg, eg2] at h4; cases d <;> cases h4
    | some d2 =>
      rw [eg, eg2] at h4
      cases d with
      | int i =>
        cases d2 with
        | int j =>
          dsimp only at h4
          split at h4
          · rename_i hb
            cases h4
            obtain rfl := (r2.view (ro.mono st2.ff) eg).int
            obtain rfl := (r2.view rp eg2).int
            exact ⟨i, j, rfl, ⟨hb.1.1, hb.1.2, hb.2.1, hb.2.2⟩, k _ H2 F2 O2 (st1.trans st2) r2 walks_range⟩
          · cases h4
        | _ => cases h4
      | _ => cases h4

/-- zip of two lists or two tuples -/
def zipD (xs ys : List D) : List D := List.zipWith (fun x y => .tup [x, y]) xs ys
def iZp (f : FA) : FI := fun S => (f S).bind fun os S => match forceAll os S with
  | some ([.lst xs, .lst ys], S2) => .ok (zipD xs ys) S2
  | some ([.tup xs, .tup ys], S2) => .ok (zipD xs ys) S2
  | _ => .no
theorem di_zip {f : FA} {p tpos : Pos} {elts : List Expr} {kk : Nat} (hg : Gl X "zip") (hm : X.mg "zip" = none) (h : DA X f [a, b])
    (hs : starEach [a, b] X.env = (false, eval a X.env) :: starEach [b] X.env := by rfl) (hn : (backTo pos (starEach [b] X.env)).any (fun x => x.1) = false := by rfl) :
    PI X (.Tuple elts kk tpos) (.Call (.Name "zip" p) [a, b] [] pos) (rdI X.K (iZp f)) := by
  refine PI.imp (RZ.pi_zipA hg hm h hs hn) fun σ H R' ⟨F, O, S, ds, S', r, hf, k⟩ => ?_
  obtain ⟨os, S1, h1, h2⟩ := R.bind_ok hf
  refine ⟨F, O, S, os, S1, r, h1, fun vs H1 F1 O1 st1 r1 ro => ?_⟩
  cases ef : forceAll os S1 with
  | none => rw [ef] at h2; cases h2
  | some z =>
    obtain ⟨zs, S2⟩ := z
    rw [ef] at h2
    obtain ⟨F2, O2, st2, r2, rd⟩ := forceAll_ok r1 ro ef
    have key : (∃ xs ys, zs = [.lst xs, .lst ys] ∧ R.ok (zipD xs ys) S2 = R.ok ds S') ∨ (∃ xs ys, zs = [.tup xs, .tup ys] ∧ R.ok (zipD xs ys) S2 = R.ok ds S') := by
      split at h2
      · rename_i e; cases e; exact .inl ⟨_, _, rfl, h2⟩
      · rename_i e; cases e; exact .inr ⟨_, _, rfl, h2⟩
      · cases h2
    rcases key with ⟨xs, ys, rfl, h2⟩ | ⟨xs, ys, rfl, h2⟩
    · cases h2
      match vs, rd with
      | [_, _], .cons (@RepD.lst _ _ p vs1 _ q1 d1) (.cons (@RepD.lst _ _ q vs2 _ q2 d2) .nil) =>
        refine ⟨p, q, vs1, vs2, rfl, .inl ⟨.inl (r2.bs.fh.rd q1), .inl (r2.bs.fh.rd q2), k _ H1 F2 O2 (st1.trans st2) r2 (walks_pair d1 d2 ?_ ?_ ?_)⟩⟩
        · exact fun i H F' l1 l2 h1 h2 => ⟨vs1, vs2, _, _, .inl ((l1.trans l2).rd q1), .inl ((l1.trans l2).rd q2), List.getElem?_eq_getElem h1, List.getElem?_eq_getElem h2⟩
        · exact fun i H F' v H' l1 l2 ⟨T, x, y, ev, hT, eH, hx, hy⟩ => ⟨T, x, y, ev, hT, eH, hx _ (.inl ((l1.trans l2).rd q1)), hy _ (.inl ((l1.trans l2).rd q2))⟩
        · exact fun i H F' l1 l2 h => ⟨vs1, vs2, .inl ((l1.trans l2).rd q1), .inl ((l1.trans l2).rd q2), h⟩
    · cases h2
      match vs, rd with
      | [_, _], .cons (@RepD.tup _ _ p vs1 _ q1 d1) (.cons (@RepD.tup _ _ q vs2 _ q2 d2) .nil) =>
        refine ⟨p, q, vs1, vs2, rfl, .inr ⟨r2.bs.fh.st q1, r2.bs.fh.st q2, k _ H1 F2 O2 (st1.trans st2) r2 (walks_pair d1 d2 ?_ ?_ ?_)⟩⟩
        · exact fun i H F' l1 l2 h1 h2 => ⟨vs1, vs2, _, _, (l1.trans l2).st q1, (l1.trans l2).st q2, List.getElem?_eq_getElem h1, List.getElem?_eq_getElem h2⟩
        · exact fun i H F' v H' l1 l2 ⟨T, x, y, ev, hT, eH, hx, hy⟩ => ⟨T, x, y, ev, hT, eH, hx _ ((l1.trans l2).st q1), hy _ ((l1.trans l2).st q2)⟩
        · exact fun i H F' l1 l2 h => ⟨vs1, vs2, (l1.trans l2).st q1, (l1.trans l2).st q2, h⟩
/-- enumerate of a list -/
def enumD (xs : List D) : List D := xs.mapIdx fun i x => .tup [.int i, x]
def iEn (f : FA) : FI := fun S => (f S).bind fun os S => match forceAll os S with
  | some ([.lst xs], S2) => .ok (enumD xs) S2
  | _ => .no
theorem di_enum {f : FA} {p tpos : Pos} {elts : List Expr} {kk : Nat} (hg : Gl X "enumerate") (hm : X.mg "enumerate" = none) (h : DA X f [a])
    (hs : starEach [a] X.env = [(false, eval a X.env)] := by rfl) : PI X (.Tuple elts kk tpos) (.Call (.Name "enumerate" p) [a] [] pos) (rdI X.K (iEn f)) := by
  refine PI.imp (pi_enum hg hm h hs) fun σ H R' ⟨F, O, S, ds, S', r, hf, k⟩ => ?_
  obtain ⟨os, S1, h1, h2⟩ := R.bind_ok hf
  refine ⟨F, O, S, os, S1, r, h1, fun vs H1 F1 O1 st1 r1 ro => ?_⟩
  cases ef : forceAll os S1 with
  | none => rw [ef] at h2; cases h2
  | some z =>
    obtain ⟨zs, S2⟩ := z
    rw [ef] at h2
    obtain ⟨F2, O2, st2, r2, rd⟩ := forceAll_ok r1 ro ef
    have key : ∃ xs, zs = [.lst xs] ∧ R.ok (enumD xs) S2 = R.ok ds S' := by
      split at h2
      · rename_i e; cases e; exact ⟨_, rfl, h2⟩
      · cases h2
    obtain ⟨xs, rfl, h2⟩ := key
    cases h2
    match vs, rd with
    | [_], .cons (@RepD.lst _ _ p vs1 _ q1 d1) .nil =>
      refine ⟨p, vs1, rfl, .inl (r2.bs.fh.rd q1), k _ H1 F2 O2 (st1.trans st2) r2 ?_⟩
      have hl : (enumD xs).length = vs1.length := by unfold enumD; rw [List.length_mapIdx, d1.len]
      refine ⟨fun i H F' l1 l2 hi => ?_, fun i H F' O σ S v H' rp l1 hi y => ?_, fun H F' l1 l2 => ?_⟩
      · rw [hl] at hi; exact ⟨vs1, _, .inl ((l1.trans l2).rd q1), List.getElem?_eq_getElem hi⟩
      · obtain ⟨T, x, ev, hT, eH, hx⟩ := y
        subst ev eH
        have hx := hx vs1 (.inl ((l1.trans rp.bs.fh).rd q1))
        obtain ⟨st, r⟩ := rp.layF (o := .tup [.int i, x]) hT
        refine ⟨_, st, r, fun d hd' => ?_⟩
        obtain ⟨d1', e1, r1⟩ := d1.getV hx
        unfold enumD at hd'
        rw [List.getElem?_mapIdx, e1] at hd'
        cases hd'
        exact .tup (.inl (.inl upd_same)) (.cons (.int _) (.cons (r1.mono (l1.trans st.ff)) .nil))
      · rw [hl]; exact ⟨vs1, .inl ((l1.trans l2).rd q1), Nat.le_refl _⟩
/-! ### for -/
def forL (g : FG) (body : FS) : List D → SS → R Fl
  | [], S => .ok .nx S
  | d :: ds, S => match g d S with
    | none => .no
    | some S1 => (body S1).bind fun fl S2 => match fl with
      | .nx => forL g body ds S2
      | .ct => forL g body ds S2
      | .bk => .ok .nx S2
      | .rt m => .ok (.rt m) S2
def sFor (i : FI) (g : FG) (body : FS) : FS := fun S => (i S).bind fun ds S => forL g body ds S
theorem ds_for {iter tg : Expr} {sts : List Stmt} {i : FI} {g : FG} (hp : PassesOwn (model X.prog X.w) X.A X.env X.xe) (hc : X.calm = true) (hi : PI X tg iter (rdI X.K i)) (hg : DG X kp g tg) (hb : DSs X kp f sts)
    (hs : ∀ x, foldedSetIterable iter X.env x = pure x := by intro _; rfl) : DS X kp (sFor i g f) (.For tg iter sts [] pos) := PS.imp (ps_for hp hc hi hg hb hs) fun D σ H ⟨F, O, S, fl, S', r, hf, k⟩ => by
  obtain ⟨ds, S1, h1, h2⟩ := R.bind_ok hf
  refine ⟨F, O, S, ds, S1, r, h1, fun J H1 F1 O1 st1 r1 wk => ?_⟩
  refine ⟨fun n m σ' H' => m = ds.length - n ∧ n ≤ ds.length ∧ ∃ F' O' S2, Stp H F O H' F' O' ∧ Rp X.K H' F' O' σ' S2 ∧ Le F1 F' ∧ Kp kp σ σ' ∧ forL g f (ds.drop n) S2 = .ok fl S', ⟨ds.length, rfl, Nat.zero_le _, F1, O1, S1, st1, r1, Le.refl _, Kp.refl _ _, h2⟩, ?_⟩
  rintro n m σ' H' ⟨rfl, hn, F', O', S2, st2, r2, l2, k2, hw⟩
  by_cases hlt : n < ds.length
  · refine .inr ⟨wk.go n H' F' l2 r2.bs.fh hlt, ?_⟩
    rw [List.drop_eq_getElem_cons hlt] at hw
    have hw : (match g ds[n] S2 with | none => .no | some S1 => (f S1).bind fun fl S2 => match fl with | .nx => forL g f (ds.drop (n + 1)) S2 | .ct => forL g f (ds.drop (n + 1)) S2 | .bk => .ok .nx S2 | .rt m => .ok (.rt m) S2) = R.ok fl S' := hw
    cases eg : g ds[n] S2 with
    | none => rw [eg] at hw; cases hw
    | some S3 =>
      rw [eg] at hw
      dsimp only at hw
      obtain ⟨fl4, S4, h3, h4⟩ := R.bind_ok hw
      refine ⟨fun σ5 H5 => ∃ F5 O5 S5, Stp H F O H5 F5 O5 ∧ Rp X.K H5 F5 O5 σ5 S5 ∧ Le F1 F5 ∧ Kp kp σ σ5 ∧ forL g f (ds.drop (n + 1)) S5 = .ok fl S', fun σ5 H5 q => ⟨ds.length - (n + 1), by omega, rfl, hlt, q⟩, fun x H5 y => ?_⟩
      obtain ⟨F5, st5, r5, rx⟩ := wk.yld n H' F' O' σ' S2 x H5 r2 l2 hlt y
      refine ⟨F5, O', S2, ds[n], S3, r5, rx _ (List.getElem?_eq_getElem hlt), eg, fun σ6 F6 O6 st6 r6 k6 => ⟨F6, O6, S3, fl4, S4, r6, h3, ?_⟩⟩
      have stA := st2.trans (st5.trans st6)
      have lA : Le F1 F6 := l2.trans (st5.ff.trans st6.ff)
      cases fl4 with
      | nx => exact fun σ7 H7 F7 O7 st7 r7 k7 => ⟨F7, O7, S4, stA.trans st7, r7, lA.trans st7.ff, (k2.trans k6).trans k7, h4⟩
      | ct => exact fun σ7 H7 F7 O7 st7 r7 k7 => ⟨F7, O7, S4, stA.trans st7, r7, lA.trans st7.ff, (k2.trans k6).trans k7, h4⟩
      | bk =>
        cases h4
        exact fun σ7 H7 F7 O7 st7 r7 k7 => k σ7 H7 F7 O7 (stA.trans st7) r7 ((k2.trans k6).trans k7)
      | rt m =>
        cases h4
        exact fun v σ7 H7 F7 O7 st7 r7 k7 rm => k v σ7 H7 F7 O7 (stA.trans st7) r7 ((k2.trans k6).trans k7) rm
  · have e : n = ds.length := by omega
    subst e
    rw [List.drop_length] at hw
    cases hw
    exact .inl ⟨wk.stop H' F' l2 r2.bs.fh, k σ' H' F' O' st2 r2 k2⟩

/-! ### while -/
def whN (c : FB) (body : FS) : Nat → SS → R Fl
  | 0, _ => .no
  | n + 1, S => (c S).bind fun b S1 => if b = true then (body S1).bind fun fl S2 => (match fl with
      | .nx => whN c body n S2
      | .ct => whN c body n S2
      | .bk => .ok .nx S2
      | .rt m => .ok (.rt m) S2) else .ok .nx S1
open Classical in
noncomputable def sWhile (c : FB) (body : FS) : FS := fun S => if h : ∃ n, whN c body n S ≠ .no then whN c body h.choose S else .no
theorem whN_mono {c : FB} {body : FS} : ∀ {n : Nat} {S : SS} {r : R Fl}, whN c body n S = r → r ≠ .no → whN c body (n + 1) S = r
  | 0, S, r, h, hn => absurd h.symm hn
  | n + 1, S, r, h, hn => by
    show (c S).bind _ = r
    have h : ((c S).bind fun b S1 => if b = true then (body S1).bind fun fl S2 => (match fl with | .nx => whN c body n S2 | .ct => whN c body n S2 | .bk => .ok .nx S2 | .rt m => .ok (.rt m) S2) else .ok .nx S1) = r := h
    cases e1 : c S with
    | ex x S1 => rw [e1] at h; exact h
    | no => rw [e1] at h; exact h
    | ok b S1 =>
      rw [e1] at h
      show (if b = true then (body S1).bind _ else _) = r
      have h : (if b = true then (body S1).bind fun fl S2 => (match fl with | .nx => whN c body n S2 | .ct => whN c body n S2 | .bk => .ok .nx S2 | .rt m => .ok (.rt m) S2) else .ok .nx S1) = r := h
      cases b with
      | false => exact h
      | true =>
        rw [if_pos rfl] at h ⊢
        cases e2 : body S1 with
        | ex x S2 => rw [e2] at h; exact h
        | no => rw [e2] at h; exact h
        | ok fl S2 =>
          rw [e2] at h
          cases fl with
          | nx => exact whN_mono (n := n) h hn
          | ct => exact whN_mono (n := n) h hn
          | bk => exact h
          | rt m => exact h
theorem whN_le {c : FB} {body : FS} {n m : Nat} {S : SS} {r : R Fl} (h : whN c body n S = r) (hn : r ≠ .no) (hl : n ≤ m) : whN c body m S = r := by
  induction hl with
  | refl => exact h
  | step _ ih => exact whN_mono ih hn
theorem sWhile_of {c : FB} {body : FS} {n : Nat} {S : SS} {r : R Fl} (h : whN c body n S = r) (hn : r ≠ .no) : sWhile c body S = r := by
  have hx : ∃ n, whN c body n S ≠ .no := ⟨n, by rw [h]; exact hn⟩
  unfold sWhile
  rw [dif_pos hx]
  have h2 := hx.choose_spec
  rcases Nat.le_total n hx.choose with l | l
  · exact whN_le h hn l
  · exact (whN_le rfl h2 l).symm.trans h
theorem sWhile_at {c : FB} {body : FS} {S : SS} {r : R Fl} (h : sWhile c body S = r) (hn : r ≠ .no) : ∃ n, whN c body n S = r := by
  unfold sWhile at h
  split at h
  · exact ⟨_, h⟩
  · exact absurd h.symm hn
/-- one turn -/
theorem sWhile_eq (c : FB) (body : FS) (S : SS) : sWhile c body S = (c S).bind fun b S1 => if b = true then (body S1).bind fun fl S2 => (match fl with
      | .nx => sWhile c body S2
      | .ct => sWhile c body S2
      | .bk => .ok .nx S2
      | .rt m => .ok (.rt m) S2) else .ok .nx S1 := by
  have key : ∀ r : R Fl, r ≠ .no → ((c S).bind fun b S1 => if b = true then (body S1).bind fun fl S2 => (match fl with | .nx => sWhile c body S2 | .ct => sWhile c body S2 | .bk => .ok .nx S2 | .rt m => .ok (.rt m) S2) else .ok .nx S1) = r → sWhile c body S = r := by
    intro r hn h
    have mk : ∀ n, ((c S).bind fun b S1 => if b = true then (body S1).bind fun fl S2 => (match fl with | .nx => whN c body n S2 | .ct => whN c body n S2 | .bk => .ok .nx S2 | .rt m => .ok (.rt m) S2) else .ok .nx S1) = r → sWhile c body S = r := fun n h => sWhile_of (n := n + 1) h hn
    cases e1 : c S with
    | ex x S1 => rw [e1] at h mk; exact mk 0 h
    | no => rw [e1] at h mk; exact mk 0 h
    | ok b S1 =>
      rw [e1] at h mk
      cases b with
      | false => exact mk 0 h
      | true =>
        dsimp only [R.bind] at h mk
        rw [if_pos rfl] at h
        simp only [if_true] at mk
        cases e2 : body S1 with
        | ex x S2 => rw [e2] at h mk; exact mk 0 h
        | no => rw [e2] at h mk; exact mk 0 h
        | ok fl S2 =>
          rw [e2] at h mk
          cases fl with
          | nx =>
            obtain ⟨n, hn'⟩ := sWhile_at (r := r) h hn
            exact mk n hn'
          | ct =>
            obtain ⟨n, hn'⟩ := sWhile_at (r := r) h hn
            exact mk n hn'
          | bk => exact mk 0 h
          | rt m => exact mk 0 h
  by_cases hz : sWhile c body S = .no
  · rw [hz]
    by_cases hy : ((c S).bind fun b S1 => if b = true then (body S1).bind fun fl S2 => (match fl with | .nx => sWhile c body S2 | .ct => sWhile c body S2 | .bk => .ok .nx S2 | .rt m => .ok (.rt m) S2) else .ok .nx S1) = .no
    · exact hy.symm
    · exact hz.symm.trans (key _ hy rfl)
  · obtain ⟨n, hn⟩ := sWhile_at (r := sWhile c body S) rfl hz
    refine Eq.symm ?_
    cases n with
    | zero => exact absurd hn.symm hz
    | succ n =>
      have hn2 : ((c S).bind fun b S1 => if b = true then (body S1).bind fun fl S2 => (match fl with | .nx => whN c body n S2 | .ct => whN c body n S2 | .bk => .ok .nx S2 | .rt m => .ok (.rt m) S2) else .ok .nx S1) = sWhile c body S := hn
      generalize sWhile c body S = r at hn2 hz
      cases e1 : c S with
      | ex x S1 => rw [e1] at hn2; exact hn2
      | no => rw [e1] at hn2; exact hn2
      | ok b S1 =>
        rw [e1] at hn2
        cases b with
        | false => exact hn2
        | true =>
          dsimp only [R.bind] at hn2 ⊢
          rw [if_pos rfl] at hn2 ⊢
          cases e2 : body S1 with
          | ex x S2 => rw [e2] at hn2; exact hn2
          | no => rw [e2] at hn2; exact hn2
          | ok fl S2 =>
            rw [e2] at hn2
            cases fl with
            | nx => exact sWhile_of hn2 hz
            | ct => exact sWhile_of hn2 hz
            | bk => exact hn2
            | rt m => exact hn2
theorem ds_while {c : Expr} {sts : List Stmt} {t : FB} (hp : PassesOwn (model X.prog X.w) X.A X.env X.xe) (hc : DT X t c) (hb : DSs X kp f sts) : DS X kp (sWhile t f) (.While c sts [] pos) := PS.imp (ps_while hp hc hb) fun D σ H ⟨F, O, S, fl, S', r, hf, k⟩ => by
  obtain ⟨n0, h0⟩ := sWhile_at hf (by intro z; cases z)
  refine ⟨fun n σ' H' => ∃ F' O' S1, Stp H F O H' F' O' ∧ Rp X.K H' F' O' σ' S1 ∧ Kp kp σ σ' ∧ whN t f n S1 = .ok fl S', ⟨n0, F, O, S, Stp.refl _ _ _, r, Kp.refl _ _, h0⟩, ?_⟩
  rintro n σ' H' ⟨F', O', S1, st1, r1, k1, hw⟩
  cases n with
  | zero => cases hw
  | succ n =>
    have hw : ((t S1).bind fun b S1 => if b = true then (f S1).bind fun fl S2 => (match fl with | .nx => whN t f n S2 | .ct => whN t f n S2 | .bk => .ok .nx S2 | .rt m => .ok (.rt m) S2) else .ok .nx S1) = .ok fl S' := hw
    obtain ⟨b, S2, h1, h2⟩ := R.bind_ok hw
    refine ⟨F', O', S1, b, S2, r1, h1, fun H2 F2 O2 st2 r2 => ?_⟩
    cases b with
    | false =>
      cases h2
      exact k σ' H2 F2 O2 (st1.trans st2) r2 k1
    | true =>
      rw [if_pos rfl] at h2
      obtain ⟨fl4, S4, h3, h4⟩ := R.bind_ok h2
      refine ⟨fun σ5 H5 => ∃ F5 O5 S5, Stp H F O H5 F5 O5 ∧ Rp X.K H5 F5 O5 σ5 S5 ∧ Kp kp σ σ5 ∧ whN t f n S5 = .ok fl S', fun σ5 H5 q => ⟨n, Nat.lt_succ_self _, q⟩, F2, O2, S2, fl4, S4, r2, h3, ?_⟩
      have stA := st1.trans st2
      cases fl4 with
      | nx => exact fun σ7 H7 F7 O7 st7 r7 k7 => ⟨F7, O7, S4, stA.trans st7, r7, k1.trans k7, h4⟩
      | ct => exact fun σ7 H7 F7 O7 st7 r7 k7 => ⟨F7, O7, S4, stA.trans st7, r7, k1.trans k7, h4⟩
      | bk =>
        cases h4
        exact fun σ7 H7 F7 O7 st7 r7 k7 => k σ7 H7 F7 O7 (stA.trans st7) r7 (k1.trans k7)
      | rt m =>
        cases h4
        exact fun v σ7 H7 F7 O7 st7 r7 k7 rm => k v σ7 H7 F7 O7 (stA.trans st7) r7 (k1.trans k7) rm
end

/-! ### comprehensions -/
def wipeS (S : SS) : List Nat → SS
  | [] => S
  | v :: vs => (wipeS S vs).set v none
def keepD : Option M → Option M
  | some (.d x) => some (.d x)
  | _ => none
def restS (S1 S2 : SS) : List Nat → SS
  | [] => S2
  | v :: vs => (restS S1 S2 vs).set v (keepD (S1.at v))
theorem wipeS_len (S : SS) : ∀ vs, (wipeS S vs).length = S.length
  | [] => rfl
  | v :: vs => by show ((wipeS S vs).set v none).length = _; rw [List.length_set, wipeS_len S vs]
theorem restS_len (S1 S2 : SS) : ∀ vs, (restS S1 S2 vs).length = S2.length
  | [] => rfl
  | v :: vs => by show ((restS S1 S2 vs).set v _).length = _; rw [List.length_set, restS_len S1 S2 vs]
theorem wipeS_at {S : SS} {j : Nat} {m : M} : ∀ {vs : List Nat}, (wipeS S vs).at j = some m → j ∉ vs ∧ S.at j = some m
  | [], h => ⟨by simp, h⟩
  | v :: vs, h => by
    rcases SS.at_set h with ⟨_, e⟩ | ⟨ne, h⟩
    · cases e
    · obtain ⟨h1, h2⟩ := wipeS_at h
      exact ⟨by simp only [List.mem_cons, not_or]; exact ⟨fun e => ne e.symm, h1⟩, h2⟩
theorem wipeS_out {S : SS} {j : Nat} : ∀ {vs : List Nat}, j ∉ vs → (wipeS S vs).at j = S.at j
  | [], _ => rfl
  | v :: vs, h => by
    simp only [List.mem_cons, not_or] at h
    show SS.at ((wipeS S vs).set v none) j = _
    rw [SS.set_ne (fun e => h.1 e.symm), wipeS_out h.2]
theorem restS_at {S1 S2 : SS} {j : Nat} {m : M} : ∀ {vs : List Nat}, (restS S1 S2 vs).at j = some m → (∃ x, m = .d x ∧ S1.at j = some (.d x)) ∨ (j ∉ vs ∧ S2.at j = some m)
  | [], h => .inr ⟨by simp, h⟩
  | v :: vs, h => by
    rcases SS.at_set h with ⟨ev, e⟩ | ⟨ne, h⟩
    · subst ev
      cases e1 : S1.at v with
      | none => rw [e1] at e; cases e
      | some n =>
        rw [e1] at e
        cases n with
        | d x => cases e; exact .inl ⟨x, rfl, rfl⟩
        | lst _ => cases e
        | dk _ => cases e
    · rcases restS_at h with h | ⟨h1, h2⟩
      · exact .inl h
      · exact .inr ⟨by simp only [List.mem_cons, not_or]; exact ⟨fun e => ne e.symm, h1⟩, h2⟩
theorem wipe_get {σ : St} {j : Nat} {v : V} : ∀ {vs : List Nat}, j ∉ vs → σ[j]? = some (some v) → (wipe σ vs)[j]? = some (some v)
  | [], _, h => h
  | u :: vs, hj, h => by
    simp only [List.mem_cons, not_or] at hj
    show ((wipe σ vs).set u none)[j]? = _
    rw [List.getElem?_set_ne (fun e => hj.1 e.symm)]
    exact wipe_get hj.2 h
section
variable {K : PySem.W.Frag} {H F H' F' : Hp} {O O' : OW} {σ : St} {S S1 S2 : SS} {vs : List Nat}
theorem Rp.wipe (r : Rp K H F O σ S) : Rp K H F O (L2.wipe σ vs) (wipeS S vs) := by
  refine ⟨r.bs, by rw [wipeS_len, wipe_length]; exact r.len, fun j m h => ?_⟩
  obtain ⟨hj, h⟩ := wipeS_at h
  obtain ⟨v, hv, rm⟩ := r.sl j m h
  exact ⟨v, wipe_get hj hv, rm⟩
theorem Rp.rest (r1 : Rp K H F O σ S1) (l : Le F F') (r : Rp K H' F' O' (L2.wipe σ vs) (wipeS S2 vs)) : Rp K H' F' O' σ (restS S1 S2 vs) := by
  refine ⟨r.bs, ?_, fun j m h => ?_⟩
  · have e := r.len
    rw [wipeS_len, wipe_length] at e
    rw [restS_len]; exact e
  · rcases restS_at h with ⟨x, em, h1⟩ | ⟨hj, h2⟩
    · subst em
      obtain ⟨v, hv, rm⟩ := r1.sl j _ h1
      exact ⟨v, hv, RepD.mono l rm⟩
    · obtain ⟨v, hv, rm⟩ := r.sl j m (by rw [wipeS_out hj]; exact h2)
      exact ⟨v, (wipe_some hv).1, rm⟩
/-- an object that is nobody's -/
theorem Stp.limbo {p : Addr} {o : HO} (st : Stp H F O H' F' O') (h : H p = some o) (hF : F p = none) (hO : O p = none) : H' p = some o ∧ F' p = none ∧ O' p = none := by
  refine ⟨st.kp p o h hO, ?_, ?_⟩
  · cases e : F' p with
    | none => rfl
    | some u =>
      rcases st.fz p u e with z | ⟨q, z⟩ | z
      · rw [hF] at z; cases z
      · rw [hO] at z; cases z
      · rw [h] at z; cases z
  · cases e : O' p with
    | none => rfl
    | some u =>
      rcases st.nw p u e with ⟨q, z⟩ | z
      · rw [hO] at z; cases z
      · rw [h] at z; cases z
theorem Rp.limbo {p : Addr} {o : HO} (r : Rp K H F O σ S) (hF : F p = none) (hO : O p = none) : Rp K (upd H p o) F O σ S := by
  have lf : Le F (upd H p o) := fun a u e => by
    rw [upd_ne (ne_of_none e hF)]
    exact r.bs.fh a u e
  have lo : ∀ {a : Addr} {q : Pl}, O a = some q → a ≠ p := fun {a q} e z => by rw [z, hO] at e; cases e
  refine ⟨⟨lf, fun a q e => ?_⟩, r.len, fun i m e => ?_⟩
  · obtain ⟨h1, u, h2⟩ := r.bs.fo a q e
    exact ⟨h1, u, by rw [upd_ne (lo e)]; exact h2⟩
  · obtain ⟨v, hv, rm⟩ := r.sl i m e
    exact ⟨v, hv, rm.stay (Le.refl _) fun a u e1 e2 => ⟨by rw [upd_ne (lo e1)]; exact e2, e1⟩⟩
/-- a step, an object that was not there at its start changed -/
theorem Stp.upd {p : Addr} {o : HO} (st : Stp H F O H' F' O') (h : H p = none) : Stp H F O (L2.upd H' p o) F' O' :=
  ⟨st.ff, fun a u e e2 => by rw [upd_ne (ne_of_none e h)]; exact st.kp a u e e2, st.nw, st.fz, fun a u e => let ⟨u', e'⟩ := st.al a u e; ⟨u', by rw [upd_ne (ne_of_none e h)]; exact e'⟩⟩
theorem Rp.claim {p : Addr} {vs' : List V} {ds : List D} (r : Rp K H F O σ S) (hF : F p = none) (hO : O p = none) (hH : H p = some (.lst vs')) (rd : RepDs K F vs' ds) : Rp K H F (ownR O p (.r, [])) σ S ∧ RepM K H F (ownR O p (.r, [])) (.r, []) (.ref p) (.lst ds) := by
  have lo : ∀ {a : Addr} {q : Pl}, O a = some q → a ≠ p := fun {a q} e z => by rw [z, hO] at e; cases e
  refine ⟨⟨⟨r.bs.fh, fun a q e => ?_⟩, r.len, fun i m e => ?_⟩, p, vs', rfl, if_pos rfl, hH, rd⟩
  · unfold ownR at e
    split at e
    · rename_i z; subst z; exact ⟨hF, _, hH⟩
    · exact r.bs.fo a q e
  · obtain ⟨v, hv, rm⟩ := r.sl i m e
    exact ⟨v, hv, rm.stay (Le.refl _) fun a u e1 e2 => ⟨e2, by unfold ownR; rw [if_neg (lo e1)]; exact e1⟩⟩
end
def lcL (own : List Nat) (g : FG) (t : FB) (fe : FE) : List D → SS → List D → R (List D)
  | [], S, acc => .ok acc S
  | d :: ds, S, acc => match g d (wipeS S own) with
    | none => .no
    | some S1 => (t S1).bind fun b S2 => if b = true then (fe S2).bind fun o S3 => (match force o S3 with
        | some (x, S4) => if acc.length < line then lcL own g t fe ds S4 (acc ++ [x]) else .no
        | none => .no) else lcL own g t fe ds S2 acc
def mLc (own : List Nat) (fi : FI) (g : FG) (t : FB) (fe : FE) : FM := fun S => (fi S).bind fun ds S1 => (lcL own g t fe ds S1 []).bind fun acc S2 => .ok (.lst acc) (restS S1 S2 own)
def kpo (own : List Nat) (i : Nat) : Bool := !own.contains i
theorem wipe_same {σ σ2 : St} {own : List Nat} (h : Kp (kpo own) (wipe σ own) σ2) : wipe σ2 own = wipe σ own := by
  have out : ∀ {σ : St} {j : Nat} {vs : List Nat}, j ∉ vs → (wipe σ vs)[j]? = σ[j]? := fun {σ j vs} hj => by
    induction vs with
    | nil => rfl
    | cons u vs ih =>
      simp only [List.mem_cons, not_or] at hj
      show ((wipe σ vs).set u none)[j]? = _
      rw [List.getElem?_set_ne (fun e => hj.1 e.symm), ih hj.2]
  have inn : ∀ {σ : St} {j : Nat} {vs : List Nat}, j ∈ vs → (wipe σ vs)[j]? = if j < σ.length then some none else none := fun {σ j vs} hj => by
    induction vs with
    | nil => cases hj
    | cons u vs ih =>
      show ((wipe σ vs).set u none)[j]? = _
      by_cases e : u = j
      · subst e
        by_cases hl : u < σ.length
        · rw [List.getElem?_set_self (by rw [wipe_length]; exact hl), if_pos hl]
        · rw [if_neg hl, List.getElem?_eq_none (by rw [List.length_set, wipe_length]; omega)]
      · rw [List.getElem?_set_ne e]
        exact ih (by rcases List.mem_cons.mp hj with z | z; exact absurd z.symm e; exact z)
  apply List.ext_getElem?
  intro j
  by_cases hj : j ∈ own
  · rw [inn hj, inn hj, h.1, wipe_length]
  · rw [out hj, out hj]
    have := h.2 j (by unfold kpo; simpa using hj)
    rw [this, out hj]
theorem lc_rd {K : PySem.W.Frag} {own : List Nat} {fi : FI} {g : FG} {t : FB} {fe : FE} {σ : St} {H : Hp} {Q : VK} (h : rdM K (mLc own fi g t fe) σ H Q) :
    tLc (rdI K fi) (rdG K (kpo own) g) (rdT K t) (rdE K fe) own σ H Q := by
  obtain ⟨F, O, S, m, S', r, hf, k⟩ := h
  obtain ⟨ds, S1, h1, h2⟩ := R.bind_ok hf
  obtain ⟨accf, Sf, h3, h4⟩ := R.bind_ok h2
  cases h4
  refine ⟨F, O, S, ds, S1, r, h1, fun J H1 F1 O1 st1 r1 wk L hL => ?_⟩
  have hHL : H L = none := by
    cases e : H L with
    | none => rfl
    | some o =>
      obtain ⟨u, hu⟩ := st1.al L o e
      rw [hL] at hu; cases hu
  obtain ⟨hF1, hO1⟩ := r1.bs.free hL
  have r1w : Rp K (upd H1 L (.lst [])) F1 O1 (wipe σ own) (wipeS S1 own) := (Rp.limbo r1 hF1 hO1).wipe
  refine ⟨fun n m H' => m = ds.length - n ∧ n ≤ ds.length ∧ ∃ F' O' S2 acc vs, Stp H F O H' F' O' ∧ Rp K H' F' O' (wipe σ own) (wipeS S2 own) ∧ Le F1 F' ∧ F' L = none ∧ O' L = none ∧ H' L = some (.lst vs) ∧ RepDs K F' vs acc ∧
    lcL own g t fe (ds.drop n) S2 acc = .ok accf Sf, ⟨ds.length, rfl, Nat.zero_le _, F1, O1, S1, [], [], st1.upd hHL, r1w, Le.refl _, hF1, hO1, upd_same, .nil, h3⟩, ?_⟩
  rintro n m H' ⟨rfl, hn, F', O', S2, acc, vs, st2, r2, l2, hF, hO, hH, rv, hw⟩
  by_cases hlt : n < ds.length
  · refine .inr ⟨wk.go n H' F' l2 r2.bs.fh hlt, ?_⟩
    rw [List.drop_eq_getElem_cons hlt] at hw
    have hw : (match g ds[n] (wipeS S2 own) with
      | none => .no
      | some S1 => (t S1).bind fun b S2 => if b = true then (fe S2).bind fun o S3 => (match force o S3 with
        | some (x, S4) => if acc.length < line then lcL own g t fe (ds.drop (n + 1)) S4 (acc ++ [x]) else .no
        | none => .no) else lcL own g t fe (ds.drop (n + 1)) S2 acc) = R.ok accf Sf := hw
    cases eg : g ds[n] (wipeS S2 own) with
    | none => rw [eg] at hw; cases hw
    | some S3 =>
      rw [eg] at hw
      dsimp only at hw
      obtain ⟨b, S4, h5, h6⟩ := R.bind_ok hw
      refine ⟨fun H5 => ∃ F5 O5 S5 acc vs, Stp H F O H5 F5 O5 ∧ Rp K H5 F5 O5 (wipe σ own) (wipeS S5 own) ∧ Le F1 F5 ∧ F5 L = none ∧ O5 L = none ∧ H5 L = some (.lst vs) ∧ RepDs K F5 vs acc ∧
        lcL own g t fe (ds.drop (n + 1)) S5 acc = .ok accf Sf, fun H5 q => ⟨ds.length - (n + 1), by omega, rfl, hlt, q⟩, fun x H5 y => ?_⟩
      obtain ⟨F5, st5, r5, rx⟩ := wk.yld n H' F' O' _ _ x H5 r2 l2 hlt y
      refine ⟨F5, O', _, ds[n], S3, r5, rx _ (List.getElem?_eq_getElem hlt), eg, fun σ6 F6 O6 st6 r6 k6 => ⟨wipe_same k6, F6, O6, S3, b, S4, r6, h5, fun H7 F7 O7 st7 r7 => ?_⟩⟩
      have stB := st5.trans (st6.trans st7)
      have stA := st2.trans stB
      have lA : Le F1 F7 := l2.trans stB.ff
      obtain ⟨hH7, hF7, hO7⟩ := stB.limbo hH hF hO
      cases b with
      | false =>
        rw [if_neg (by decide)] at h6
        show (if false = true then _ else _)
        rw [if_neg (by decide)]
        have rw7 := r7.wipe (vs := own)
        rw [wipe_same k6] at rw7
        exact ⟨F7, O7, S4, acc, vs, stA, rw7, lA, hF7, hO7, hH7, rv.mono stB.ff, h6⟩
      | true =>
        rw [if_pos rfl] at h6
        show (if true = true then _ else _)
        rw [if_pos rfl]
        obtain ⟨o, S5, h7, h8⟩ := R.bind_ok h6
        refine ⟨F7, O7, S4, o, S5, r7, h7, fun y8 H8 F8 O8 st8 r8 ro => ?_⟩
        cases ef : force o S5 with
        | none => rw [ef] at h8; cases h8
        | some z =>
          obtain ⟨d, S6⟩ := z
          rw [ef] at h8
          dsimp only at h8
          split at h8
          · rename_i hlen
            obtain ⟨F9, O9, st9, r9, rd⟩ := force_ok r8 ro ef
            have st89 := st8.trans st9
            obtain ⟨hH9, hF9, hO9⟩ := st89.limbo hH7 hF7 hO7
            have rvA : RepDs K F9 vs acc := rv.mono (stB.ff.trans st89.ff)
            refine ⟨vs, hH9, by rw [rv.len, ← line_eq]; exact hlen, ?_⟩
            have r10 := (Rp.limbo (o := .lst (vs ++ [y8])) r9 hF9 hO9).wipe (vs := own)
            rw [wipe_same k6] at r10
            exact ⟨F9, O9, S6, acc ++ [d], vs ++ [y8], (stA.trans st89).upd hHL, r10, lA.trans st89.ff, hF9, hO9, upd_same, rvA.snoc rd, h8⟩
          · cases h8
  · have e : n = ds.length := by omega
    subst e
    rw [List.drop_length] at hw
    cases hw
    refine .inl ⟨wk.stop H' F' l2 r2.bs.fh, ?_⟩
    obtain ⟨rc, rm⟩ := (r1.rest l2 r2).claim hF hO hH rv
    refine k (.ref L) H' F' _ ⟨st2.ff, st2.kp, fun a q e => ?_, st2.fz, st2.al⟩ rc rm
    unfold ownR at e
    split at e
    · rename_i z; subst z; exact .inr hHL
    · exact st2.nw a q e
abbrev DTs (X : Cx) (t : FB) (ifs : List Expr) : Prop := PTs X ifs (rdT X.K t)
def tTrue : FB := fun S => .ok true S
section
variable {X : Cx} {kp : Nat → Bool} {e a b : Expr} {pos : Pos}
theorem dts_nil : DTs X tTrue [] := ⟨fun pins s σ H Q I ⟨F, O, S, b, S', r, h, k⟩ => by
  cases h
  exact pts_nil.run pins s σ H Q I (k H F O (Stp.refl _ _ _) r)⟩
theorem dts_one {c : Expr} {t : FB} (h : DT X t c) : DTs X t [c] := pts_one h
theorem dm_lc {elt tg iter : Expr} {ifs : List Expr} {scope : Scope} {own : List (Str × Nat)} {fi : FI} {g : FG} {t : FB} {fe : FE} (hc : X.calm = true) (hN : X.N.Nodup) (hi : PI X tg iter (rdI X.K fi)) (ok : BlkOk X.N X.env.scope scope own)
    (hg : ∀ (s : Shared) (H : Hp) (C : Addr) (cl : List (Str × Addr)) (fp : List Addr), DG (X.blk s H scope (compEnvC scope cl C X.env) fp) (kpo (own.map (·.2))) g tg)
    (ht : ∀ (s : Shared) (H : Hp) (C : Addr) (cl : List (Str × Addr)) (fp : List Addr), DTs (X.blk s H scope (compEnvC scope cl C X.env) fp) t ifs)
    (he : ∀ (s : Shared) (H : Hp) (C : Addr) (cl : List (Str × Addr)) (fp : List Addr), DE (X.blk s H scope (compEnvC scope cl C X.env) fp) fe elt) (hs : ∀ x, foldedSetIterable iter X.env x = pure x := by intro _; rfl) :
    DM X (mLc (own.map (·.2)) fi g t fe) (.ListComp elt [⟨tg, iter, ifs, 0⟩] scope pos) := PE.imp (pe_lc hc hN hi ok hg ht he hs) fun σ H Q h => lc_rd h
/-- name = [..] -/
theorem ds_setLc {i : Nat} {y : Str} {py spos : Pos} {elt tg iter : Expr} {ifs : List Expr} {scope : Scope} {own : List (Str × Nat)} {fi : FI} {g : FG} {t : FB} {fe : FE} (hc : X.calm = true) (hN : X.N.Nodup) (hy : X.N[i]? = some y) (hyl : X.env.scope.names.lookup y = some .local) (hk : kp i = false)
    (hsw : swapsWith (.ListComp elt [⟨tg, iter, ifs, 0⟩] scope pos) (some (.Name y py)) spos.line X.env = pure true) (hi : PI X tg iter (rdI X.K fi)) (ok : BlkOk X.N X.env.scope scope own)
    (hg : ∀ (s : Shared) (H : Hp) (C : Addr) (cl : List (Str × Addr)) (fp : List Addr), DG (X.blk s H scope (compEnvC scope cl C X.env) fp) (kpo (own.map (·.2))) g tg)
    (ht : ∀ (s : Shared) (H : Hp) (C : Addr) (cl : List (Str × Addr)) (fp : List Addr), DTs (X.blk s H scope (compEnvC scope cl C X.env) fp) t ifs)
    (he : ∀ (s : Shared) (H : Hp) (C : Addr) (cl : List (Str × Addr)) (fp : List Addr), DE (X.blk s H scope (compEnvC scope cl C X.env) fp) fe elt) (hs : ∀ x, foldedSetIterable iter X.env x = pure x := by intro _; rfl) :
    DS X kp (sSet i (mLc (own.map (·.2)) fi g t fe)) (.Assign [.Name y py] (.ListComp elt [⟨tg, iter, ifs, 0⟩] scope pos) spos) :=
  PS.imp (ps_setLc hc hN hy hyl hsw hi ok hg ht he hs) fun D σ H h => set_rd hk (fun _ _ _ q => lc_rd q) h
end

inductive CR where
  | ok (r : M) (fin : List (Option M))
  | ex (x : Exn) (fin : List (Option M))
  | no
def M.own : M → Bool
  | .d _ => false
  | _ => true
def lend : List Ov → SS → Option (List M × SS)
  | [], S => some ([], S)
  | .d x :: os, S => match lend os S with
    | some (ms, S') => some (.d x :: ms, S')
    | none => none
  | .j i :: os, S => match S.at i with
    | some m => (match lend os (if m.own then S.set i none else S) with
      | some (ms, S') => some (m :: ms, S')
      | none => none)
    | none => none
def back : List Ov → List M → List (Option M) → SS → SS
  | .j i :: os, m :: ms, f :: fs, S => back os ms fs (if m.own then S.set i f else S)
  | .d _ :: os, _ :: ms, _ :: fs, S => back os ms fs S
  | _, _, _, S => S
def Lent (os : List Ov) (ms : List M) (p i : Nat) : Prop := os[p]? = some (.j i) ∧ ∃ m, ms[p]? = some m ∧ m.own = true
theorem Lent.succ {o : Ov} {os : List Ov} {m : M} {ms : List M} {p i : Nat} : Lent (o :: os) (m :: ms) (p + 1) i ↔ Lent os ms p i := by
  unfold Lent
  simp
structure LendOk (os : List Ov) (ms : List M) (S S' : SS) : Prop where
  len : ms.length = os.length
  sl : S'.length = S.length
  dd : ∀ (p : Nat) (x : D), os[p]? = some (Ov.d x) → ms[p]? = some (M.d x)
  jj : ∀ (p i : Nat), os[p]? = some (Ov.j i) → ∃ m, ms[p]? = some m ∧ S.at i = some m
  inj : ∀ p p' i, Lent os ms p i → Lent os ms p' i → p = p'
  st : ∀ j m, S'.at j = some m → S.at j = some m ∧ ∀ p, ¬ Lent os ms p j
theorem lend_ok : ∀ {os : List Ov} {S S' : SS} {ms : List M}, lend os S = some (ms, S') → LendOk os ms S S'
  | [], S, S', ms, h => by
    cases h
    exact ⟨rfl, rfl, fun p x e => by simp at e, fun p i e => by simp at e, fun p p' i e => by simp [Lent] at e, fun j m e => ⟨e, fun p q => by simp [Lent] at q⟩⟩
  | .d x :: os, S, S', ms, h => by
    have h : (match lend os S with | some (ms, S') => some (M.d x :: ms, S') | none => none) = some (ms, S') := h
    cases e1 : lend os S with
    | none => rw [e1] at h; cases h
    | some z =>
      obtain ⟨mr, S1⟩ := z
      rw [e1] at h
      cases h
      have L := lend_ok e1
      have n0 : ∀ i, ¬ Lent (.d x :: os) (.d x :: mr) 0 i := fun i q => by
        have := q.1
        simp at this
      refine ⟨by simp [L.len], L.sl, fun p y e => ?_, fun p i e => ?_, fun p p' i e e' => ?_, fun j m e => ?_⟩
      · cases p with
        | zero => simp at e ⊢; exact e
        | succ p => simpa using L.dd p y (by simpa using e)
      · cases p with
        | zero => simp at e
        | succ p => simpa using L.jj p i (by simpa using e)
      · cases p with
        | zero => exact absurd e (n0 i)
        | succ p =>
          cases p' with
          | zero => exact absurd e' (n0 i)
          | succ p' => exact congrArg (· + 1) (L.inj p p' i (Lent.succ.mp e) (Lent.succ.mp e'))
      · obtain ⟨h1, h2⟩ := L.st j m e
        refine ⟨h1, fun p q => ?_⟩
        cases p with
        | zero => exact n0 j q
        | succ p => exact h2 p (Lent.succ.mp q)
  | .j i :: os, S, S', ms, h => by
    have h : (match S.at i with | some m => (match lend os (if m.own then S.set i none else S) with | some (ms, S') => some (m :: ms, S') | none => none) | none => none) = some (ms, S') := h
    cases em : S.at i with
    | none => rw [em] at h; cases h
    | some m0 =>
      rw [em] at h
      dsimp only at h
      cases e1 : lend os (if m0.own then S.set i none else S) with
      | none => rw [e1] at h; cases h
      | some z =>
        obtain ⟨mr, S1⟩ := z
        rw [e1] at h
        cases h
        have L := lend_ok e1
        have atS : ∀ j m, SS.at (if m0.own then S.set i none else S) j = some m → S.at j = some m ∧ (m0.own = true → i ≠ j) := fun j m e => by
          cases ho : m0.own with
          | false => rw [ho] at e; exact ⟨e, fun z => by cases z⟩
          | true =>
            rw [ho] at e
            rcases SS.at_set e with ⟨_, z⟩ | ⟨ne, z⟩
            · cases z
            · exact ⟨z, fun _ => ne⟩
        have n0 : ∀ k, Lent (.j i :: os) (m0 :: mr) 0 k → k = i ∧ m0.own = true := fun k q => by
          obtain ⟨q1, m, q2, q3⟩ := q
          simp at q1 q2
          subst q2
          exact ⟨q1.symm, q3⟩
        have nl : m0.own = true → ∀ p, ¬ Lent os mr p i := fun ho p q => by
          obtain ⟨q1, _⟩ := q
          obtain ⟨m, _, q2⟩ := L.jj p i q1
          exact (atS i m q2).2 ho rfl
        refine ⟨by simp [L.len], by rw [L.sl]; split <;> simp, fun p y e => ?_, fun p k e => ?_, fun p p' k e e' => ?_, fun j m e => ?_⟩
        · cases p with
          | zero => simp at e
          | succ p => simpa using L.dd p y (by simpa using e)
        · cases p with
          | zero => simp at e; subst e; exact ⟨m0, by simp, em⟩
          | succ p =>
            obtain ⟨m, q1, q2⟩ := L.jj p k (by simpa using e)
            exact ⟨m, by simpa using q1, (atS k m q2).1⟩
        · cases p with
          | zero =>
            obtain ⟨ek, ho⟩ := n0 k e
            subst ek
            cases p' with
            | zero => rfl
            | succ p' => exact absurd (Lent.succ.mp e') (nl ho p')
          | succ p =>
            cases p' with
            | zero =>
              obtain ⟨ek, ho⟩ := n0 k e'
              subst ek
              exact absurd (Lent.succ.mp e) (nl ho p)
            | succ p' => exact congrArg (· + 1) (L.inj p p' k (Lent.succ.mp e) (Lent.succ.mp e'))
        · obtain ⟨h1, h2⟩ := L.st j m e
          obtain ⟨h3, h4⟩ := atS j m h1
          refine ⟨h3, fun p q => ?_⟩
          cases p with
          | zero =>
            obtain ⟨ej, ho⟩ := n0 j q
            exact h4 ho ej.symm
          | succ p => exact h2 p (Lent.succ.mp q)
theorem back_len : ∀ {os : List Ov} {ms : List M} {fs : List (Option M)} {S : SS}, (back os ms fs S).length = S.length
  | [], _, _, _ => by unfold back; rfl
  | .d x :: os, [], _, _ => by unfold back; rfl
  | .d x :: os, _ :: _, [], _ => by unfold back; rfl
  | .d x :: os, m :: ms, f :: fs, S => by
    show (back os ms fs S).length = _
    exact back_len
  | .j x :: os, [], _, _ => by unfold back; rfl
  | .j x :: os, _ :: _, [], _ => by unfold back; rfl
  | .j i :: os, m :: ms, f :: fs, S => by
    show (back os ms fs (if m.own then S.set i f else S)).length = _
    rw [back_len]
    split <;> simp
theorem back_at {j : Nat} {m : M} : ∀ {os : List Ov} {ms : List M} {fs : List (Option M)} {S : SS}, (back os ms fs S).at j = some m → (∃ p, Lent os ms p j ∧ fs[p]? = some (some m)) ∨ S.at j = some m
  | [], _, _, _, h => .inr (by unfold back at h; exact h)
  | .d x :: os, [], _, _, h => .inr (by unfold back at h; exact h)
  | .d x :: os, _ :: _, [], _, h => .inr (by unfold back at h; exact h)
  | .d x :: os, m' :: ms, f :: fs, S, h => by
    have h : (back os ms fs S).at j = some m := h
    rcases back_at h with ⟨p, h1, h2⟩ | h1
    · exact .inl ⟨p + 1, Lent.succ.mpr h1, by simpa using h2⟩
    · exact .inr h1
  | .j x :: os, [], _, _, h => .inr (by unfold back at h; exact h)
  | .j x :: os, _ :: _, [], _, h => .inr (by unfold back at h; exact h)
  | .j i :: os, m' :: ms, f :: fs, S, h => by
    have h : (back os ms fs (if m'.own then S.set i f else S)).at j = some m := h
    rcases back_at h with ⟨p, h1, h2⟩ | h1
    · exact .inl ⟨p + 1, Lent.succ.mpr h1, by simpa using h2⟩
    · cases ho : m'.own with
      | false => rw [ho] at h1; exact .inr h1
      | true =>
        rw [ho] at h1
        rcases SS.at_set h1 with ⟨e1, e2⟩ | ⟨_, e⟩
        · subst e1
          exact .inl ⟨0, ⟨by simp, m', by simp, ho⟩, by simp [e2]⟩
        · exact .inr e

/-! ### what a def promises -/
def spD (K : PySem.W.Frag) (np : Nat) (g : List M → CR) : Sp := fun vs H Q E => ∃ F O ms r fin, vs.length = np ∧ ms.length = np ∧ Bs H F O ∧ (∀ p m, ms[p]? = some m → ∃ v, vs[p]? = some v ∧ RepM K H F O (.s p, []) v m) ∧ g ms = .ok r fin ∧
  ∀ v H' F' O', Stp H F O H' F' O' → Bs H' F' O' → RepM K H' F' O' (.r, []) v r → (∀ p m, fin[p]? = some (some m) → ∃ w, vs[p]? = some w ∧ RepM K H' F' O' (.s p, []) w m) → Q v H'
/-- room where no repr is under way -/
structure RoomG (k : Nat) (A : Around) : Prop where
  rm : Room k A
  gd : A.guards = some []
theorem RoomG.deeper {k : Nat} {A : Around} (r : RoomG (k + 1) A) (env : Env) : RoomG k (A.deeper env) := ⟨r.rm.deeper env, r.gd⟩
/-- a def's promise where no repr is under way -/
structure FnG (P : Program) (w : World) (K : PySem.W.Frag) (mg : Str → Option Value) (base : Heap) (k : Nat) (f : Addr) (fd : FuncData) (ps : List Str) (sp : Sp) : Prop where
  len : ∀ vs H Q E, sp vs H Q E → vs.length = ps.length
  run : ∀ (A : Around) (outer : List Env) (s : Shared) (H : Hp) (args : Args) (us : List Value) (vs : List V) (Q : VK) (E : XK), RoomG k A → Env0 P w K mg base A outer s H → BindsTo s fd args (ps.zip us) → Vals vs us → sp vs H Q E →
    codeAny (model P w) A (.call (.ref f) args) (L2.CR CX0 outer P w H s Q E) s
section
variable {X : Cx} {k : Nat} {f : Addr} {fd : FuncData} {ps : List Str} {sp : Sp} {E : XK} {x : Str} {p pos : Pos} {e : Expr} {es : List Expr} {t : TA}
theorem run_g {pins : List (Addr × Obj)} {σ : St} {H : Hp} {s : Shared} {Q : VK} {us : List Value} {vs : List V} (F : FnG X.prog X.w X.K X.mg X.base k f fd ps sp) (hr : RoomG k X.A) (hb : Binds X.K fd ps [])
    (I : Inv X pins σ H s) (r : Vals vs us) (h : sp vs H Q E) : wpAny (model X.prog X.w) X.A (call (.ref f) us) (EP X pins σ Q) X.xe s := by
  have hl : us.length = ps.length := by rw [← r.length]; exact F.len _ _ _ _ h
  have hb' := hb s us I.kIn (by rw [List.append_nil]; exact hl)
  rw [List.append_nil] at hb'
  refine wpAny_call (codeAny_mono (F.run X.A X.stack s H ⟨us, []⟩ us vs Q E hr I.env0 hb' r h) fun r s' hq => ?_)
  match r, hq with
  | .ok (.ret u), hq => exact I.after hq
theorem pe_callG (F : FnG X.prog X.w X.K X.mg X.base k f fd ps sp) (hr : RoomG k X.A) (hg : Gl X x) (hm : X.mg x = some (.ref f)) (hk : PySem.W.keepIn X.K (.ref f) = true) (hb : Binds X.K fd ps [])
    (ha : PA X (e :: es) t) (hdb : (x == ("__debug__" : Str)) = false := by decide) (he : starEach (e :: es) X.env = (false, eval e X.env) :: starEach es X.env := by rfl) (hpl : (backTo pos (starEach es X.env)).any (·.1) = false := by rfl) :
    PE X (.Call (.Name x p) (e :: es) [] pos) (tCall sp [] E t) :=
  ⟨fun pins s σ H Q I h => wpAny_Call_Name_kw (ld_glob I hg hm (PySem.W.callWith_K (h₀ := X.base) I.ok.mod.kin hk (thn (ha.run pos pins s σ H _ I h) fun us s1 ⟨vs, H1, I1, r, q⟩ =>
    ⟨I1.kIn, run_g (E := E) F hr hb I1 r (by have q : sp (vs ++ []) H1 Q E := q; rw [List.append_nil] at q; exact q)⟩) he hpl) hdb)⟩
theorem pe_callG0 (F : FnG X.prog X.w X.K X.mg X.base k f fd ps sp) (hr : RoomG k X.A) (hg : Gl X x) (hm : X.mg x = some (.ref f)) (hk : PySem.W.keepIn X.K (.ref f) = true) (hb : Binds X.K fd ps [])
    (hdb : (x == ("__debug__" : Str)) = false := by decide) : PE X (.Call (.Name x p) [] [] pos) (tCall sp [] E tNil) :=
  ⟨fun pins s σ H Q I h => wpAny_Call_Name_kw (ld_glob I hg hm (PySem.W.callWith_K0 I.kIn hk (run_g (us := []) F hr hb I .nil h)) hdb)⟩
end
theorem ok_g {P : Program} {w : World} {K : PySem.W.Frag} {mg : Str → Option Value} {base : Heap} {x qual : Str} {st : Stmt} {f : Addr} {fd : FuncData} {N ps : List Str} {k : Nat} {sp : Sp} (F : Fun K x qual st f fd) (S : FnScope N ps (defScope st)) (len : ∀ vs H Q E, sp vs H Q E → vs.length = ps.length)
    (hbody : ∀ (cdv : Value) (A : Around) (outer : List Env) (s : Shared) (H : Hp) (vs : List V) (Q : VK) (E : XK), RoomG k (A.deeper (envOfC qual (defScope st) s.heap.objs.size f cdv)) → sp vs H Q E →
      ∃ t, PSs (cxOf CX0 P w K mg base N qual (defScope st) f cdv A outer s H E).nox (defBody st) t ∧ t { nx := fun _ H' => Q .non H', rt := Q } (L2.start N vs) H) : FnG P w K mg base (k + 1) f fd ps sp := by
  obtain ⟨oc, od, kV, doc, pm, an, cdv, ct, osl, rfl, lk, hcd⟩ := F.ex
  refine ⟨len, fun A outer s H args us vs Q E hr e0 hb r hsp => ?_⟩
  have hl := len _ _ _ _ hsp
  have kx : ∀ b o, base.get? b = some o → s.heap.get? b = some o := fun b o e => (e0.bs b o e).1
  have KX : K.In s.heap := e0.mod.kin.keeps kx
  refine codeAny_call_function hr.rm.depth (KX _ _ lk) rfl S.co S.gen rfl (PySem.W.codeRec_of KX hcd) (hb _ _ _ _ ?_)
  refine wpAny_newFunctionEnv_cells S.kind (fun ⟨n, v⟩ hy => ?_) fun env he s1 y => ?_
  · rcases S.par n (List.of_mem_zip hy).1 with q | q
    · exact .inl q
    · exact .inr ⟨q, PySem.W.cellsFrom_some _ _ _ (.inl q)⟩
  · subst he
    refine ⟨(e0.mod.nolimit.keeps kx).keeps y.toInCall.keep, codeAny_func ?_⟩
    obtain ⟨t, ht, hq⟩ := hbody cdv A outer s H vs Q E (hr.deeper _) hsp
    have I : L2.Inv (cxOf CX0 P w K mg base N qual (defScope st) f cdv A outer s H E) [] (L2.start N vs) H s1 := inv_start S hr.rm.hd e0 hl r y
    have hw := ht.nox.run [] s1 (L2.start N vs) H _ I hq
    refine wpAny_mono hw (fun fl s' hs => ?_) fun e s' hs => hs
    have done : ∀ {σ' : St} {H' : Hp} {v : V} {u : Value}, L2.Inv (cxOf CX0 P w K mg base N qual (defScope st) f cdv A outer s H E) [] σ' H' s' → RelV v u → Q v H' → L2.CE outer P w H s Q u s' :=
      fun {σ' H' v u} J rv q => ⟨v, H', J.os, J.bare, J.base, J.hok, rv, q⟩
    cases fl with
    | ret u =>
      obtain ⟨v, σ', H', J, rv, q⟩ := hs
      exact done J rv q
    | next =>
      obtain ⟨σ', H', J, q⟩ := hs
      exact done (v := V.non) (u := Value.none) J rfl q
    | brk =>
      obtain ⟨_, _, _, q⟩ := hs
      exact False.elim q
    | cont =>
      obtain ⟨_, _, _, q⟩ := hs
      exact False.elim q
structure FnD (P : Program) (w : World) (K : PySem.W.Frag) (mg : Str → Option Value) (base : Heap) (n : Nat) (x : Str) (np : Nat) (g : List M → CR) : Prop where
  ex : ∃ (f : Addr) (fd : FuncData) (ps : List Str), ps.length = np ∧ FnG P w K mg base n f fd ps (spD K np g) ∧ mg x = some (.ref f) ∧ PySem.W.keepIn K (.ref f) = true ∧ Binds K fd ps []
def mCall (g : List M → CR) (fas : FA) : FM := fun S => (fas S).bind fun os S1 => match lend os S1 with
  | some (ms, S2) => (match g ms with
    | .ok r fin => .ok r (back os ms fin S2)
    | .ex x fin => .ex x (back os ms fin S2)
    | .no => .no)
  | none => .no

section
open Classical
noncomputable def posOf (os : List Ov) (ms : List M) (i : Nat) : Option Nat := if h : ∃ p, Lent os ms p i then some h.choose else none
theorem posOf_some {os : List Ov} {ms : List M} {i p : Nat} (h : posOf os ms i = some p) : Lent os ms p i := by
  unfold posOf at h
  split at h
  · rename_i hx
    have := hx.choose_spec
    cases h
    exact this
  · cases h
theorem posOf_of {os : List Ov} {ms : List M} {i p : Nat} (inj : ∀ p p' i, Lent os ms p i → Lent os ms p' i → p = p') (h : Lent os ms p i) : posOf os ms i = some p := by
  unfold posOf
  have hx : ∃ p, Lent os ms p i := ⟨p, h⟩
  rw [dif_pos hx]
  exact congrArg some (inj _ _ i hx.choose_spec h)
theorem posOf_none {os : List Ov} {ms : List M} {i : Nat} (h : ∀ p, ¬ Lent os ms p i) : posOf os ms i = none := by
  unfold posOf
  rw [dif_neg (fun ⟨p, q⟩ => h p q)]
noncomputable def inO (os : List Ov) (ms : List M) (O : OW) : OW := fun a => match O a with
  | some (.s i, pth) => (match posOf os ms i with
    | some p => some (.s p, pth)
    | none => none)
  | _ => none
noncomputable def outO (os : List Ov) (ms : List M) (O Oc : OW) : OW := fun a => match Oc a with
  | some (.s p, pth) => (match os[p]? with
    | some (.j i) => if Lent os ms p i then some (.s i, pth) else none
    | _ => none)
  | some (.r, pth) => some (.r, pth)
  | none => (match O a with
    | some (.s i, pth) => (match posOf os ms i with
      | some _ => none
      | none => some (.s i, pth))
    | _ => none)
section
variable {os : List Ov} {ms : List M} {O Oc : OW} {a : Addr} {q : Pl}
theorem inO_some (h : inO os ms O a = some q) : ∃ q', O a = some q' := by
  unfold inO at h
  cases e : O a with
  | none => rw [e] at h; cases h
  | some q' => exact ⟨q', rfl⟩
theorem outO_some (h : outO os ms O Oc a = some q) : (∃ q', Oc a = some q') ∨ (Oc a = none ∧ ∃ i pth, O a = some (.s i, pth) ∧ posOf os ms i = none ∧ q = (.s i, pth)) := by
  unfold outO at h
  cases e : Oc a with
  | some q' => exact .inl ⟨q', rfl⟩
  | none =>
    rw [e] at h
    dsimp only at h
    cases e2 : O a with
    | none => rw [e2] at h; cases h
    | some z =>
      rw [e2] at h
      obtain ⟨rt, pth⟩ := z
      cases rt with
      | r => cases h
      | s i =>
        dsimp only at h
        cases e3 : posOf os ms i with
        | some _ => rw [e3] at h; cases h
        | none => rw [e3] at h; cases h; exact .inr ⟨rfl, i, pth, rfl, e3, rfl⟩
theorem inO_none_of {i : Nat} {pth : List Str} (h : O a = some (.s i, pth)) (hp : posOf os ms i = none) : inO os ms O a = none := by
  unfold inO
  rw [h]
  dsimp only
  rw [hp]
end
end
section
variable {X : Cx} {e : Expr} {es : List Expr} {p pos : Pos} {x : Str} {n np : Nat} {g : List M → CR}
theorem call_rd {K : PySem.W.Frag} {fas : FA} {σ : St} {H : Hp} {Q : VK} (h : rdM K (mCall g fas) σ H Q) (hnp : ∀ S os S', fas S = .ok os S' → os.length = np) : tCall (spD K np g) [] (fun _ _ _ => False) (rdA K fas) σ H Q := by
  obtain ⟨F, O, S, m, S', r, hf, k⟩ := h
  obtain ⟨os, S1, h1, h2⟩ := R.bind_ok hf
  refine ⟨F, O, S, os, S1, r, h1, fun vs H1 F1 O1 st1 r1 ro => ?_⟩
  show spD K np g (vs ++ []) H1 Q _
  rw [List.append_nil]
  cases el : lend os S1 with
  | none => rw [el] at h2; cases h2
  | some z =>
    obtain ⟨ms, S2⟩ := z
    rw [el] at h2
    dsimp only at h2
    cases eg : g ms with
    | ex x fin => rw [eg] at h2; cases h2
    | no => rw [eg] at h2; cases h2
    | ok rr fin =>
      rw [eg] at h2
      cases h2
      have L := lend_ok el
      have rolen : ∀ {vs : List V} {os : List Ov}, RepOvs K F1 σ vs os → vs.length = os.length := fun {vs os} h => by
        induction h with
        | nil => rfl
        | cons _ _ ih => simp [ih]
      have roget : ∀ {vs : List V} {os : List Ov} {i : Nat} {o : Ov}, RepOvs K F1 σ vs os → os[i]? = some o → ∃ v, vs[i]? = some v ∧ RepOv K F1 σ v o := fun {vs os i o} h => by
        induction h generalizing i with
        | nil => intro e; simp at e
        | cons h _ ih =>
          intro e
          cases i with
          | zero => simp at e; subst e; exact ⟨_, by simp, h⟩
          | succ i =>
            obtain ⟨v, q1, q2⟩ := ih (by simpa using e)
            exact ⟨v, by simpa using q1, q2⟩
      have eos := hnp S os S1 h1
      have inBs : Bs H1 F1 (inO os ms O1) := ⟨r1.bs.fh, fun a q hq => by
        obtain ⟨q', e⟩ := inO_some hq
        exact r1.bs.fo a q' e⟩
      refine ⟨F1, inO os ms O1, ms, m, fin, by rw [rolen ro, eos], by rw [L.len, eos], inBs, fun p mm hp => ?_, eg, fun v H2 F2 Oc st2 bs2 rm rf => ?_⟩
      · -- the arguments
        have hlt : p < os.length := by rw [← L.len]; exact (List.getElem?_eq_some_iff.mp hp).1
        have eo : os[p]? = some os[p] := List.getElem?_eq_getElem hlt
        obtain ⟨v, hv, rv⟩ := roget ro eo
        refine ⟨v, hv, ?_⟩
        cases eop : os[p] with
        | d y =>
          rw [eop] at eo rv
          have := L.dd p y eo
          rw [hp] at this
          cases this
          exact rv
        | j i =>
          rw [eop] at eo rv
          obtain ⟨m', q1, q2⟩ := L.jj p i eo
          rw [hp] at q1
          cases q1
          obtain ⟨w, hw, rw'⟩ := r1.sl i _ q2
          have z : σ[i]? = some (some v) := rv
          rw [hw] at z
          cases z
          cases ho : mm.own with
          | false =>
            cases mm with
            | d y => exact rw'
            | lst _ => cases ho
            | dk _ => cases ho
          | true =>
            have hl : Lent os ms p i := ⟨eo, mm, hp, ho⟩
            exact rw'.move (Le.refl _) fun a o e1 e2 => ⟨e2, by unfold inO; rw [e1]; dsimp only; rw [posOf_of L.inj hl]⟩
      · -- behind the call
        have keepO : ∀ a i pth, O1 a = some (.s i, pth) → posOf os ms i = none → Oc a = none ∧ ∀ o, H1 a = some o → H2 a = some o := fun a i pth e hp => by
          have hin := inO_none_of (os := os) (ms := ms) e hp
          refine ⟨?_, fun o ho => st2.kp a o ho hin⟩
          cases e2 : Oc a with
          | none => rfl
          | some q =>
            rcases st2.nw a q e2 with ⟨q', z⟩ | z
            · rw [hin] at z; cases z
            · obtain ⟨_, u, hu⟩ := r1.bs.fo a _ e
              rw [hu] at z; cases z
        have st3 : Stp H1 F1 O1 H2 F2 (outO os ms O1 Oc) := by
          refine ⟨st2.ff, fun a o ha e => st2.kp a o ha ?_, fun a q hq => ?_, fun a o ha => ?_, st2.al⟩
          · unfold inO; rw [e]
          · rcases outO_some hq with ⟨q', e⟩ | ⟨_, i, pth, e, _⟩
            · rcases st2.nw a q' e with ⟨q2, z⟩ | z
              · exact .inl (inO_some z)
              · exact .inr z
            · exact .inl ⟨_, e⟩
          · rcases st2.fz a o ha with z | ⟨q, z⟩ | z
            · exact .inl z
            · exact .inr (.inl (inO_some z))
            · exact .inr (.inr z)
        have bs3 : Bs H2 F2 (outO os ms O1 Oc) := by
          refine ⟨bs2.fh, fun a q hq => ?_⟩
          rcases outO_some hq with ⟨q', e⟩ | ⟨e0, i, pth, e, hp, _⟩
          · exact bs2.fo a q' e
          · obtain ⟨z1, u, z2⟩ := r1.bs.fo a _ e
            obtain ⟨_, k2⟩ := keepO a i pth e hp
            refine ⟨?_, u, k2 u z2⟩
            cases e5 : F2 a with
            | none => rfl
            | some y =>
              rcases st2.fz a y e5 with z | ⟨q', z⟩ | z
              · rw [z1] at z; cases z
              · rw [inO_none_of (os := os) (ms := ms) e hp] at z; cases z
              · rw [z2] at z; cases z
        refine k v H2 F2 _ (st1.trans st3) ⟨bs3, ?_, fun j mm hj => ?_⟩ (rm.move (Le.refl _) fun a o e1 e2 => ⟨e2, by unfold outO; rw [e1]⟩)
        · rw [back_len, L.sl]; exact r1.len
        · rcases back_at hj with ⟨p, hl, hfp⟩ | hj
          · obtain ⟨w, hw, rw'⟩ := rf p mm hfp
            obtain ⟨v', hv', rv'⟩ := roget ro hl.1
            rw [hw] at hv'
            cases hv'
            refine ⟨w, rv', rw'.move (Le.refl _) fun a o e1 e2 => ⟨e2, ?_⟩⟩
            unfold outO
            rw [e1]
            dsimp only
            rw [hl.1]
            dsimp only
            rw [if_pos hl]
          · obtain ⟨h3, h4⟩ := L.st j mm hj
            obtain ⟨w, hw, rw'⟩ := r1.sl j mm h3
            have hp := posOf_none h4
            refine ⟨w, hw, rw'.stay st2.ff fun a o e1 e2 => ?_⟩
            obtain ⟨k1, k2⟩ := keepO a j [] e1 hp
            refine ⟨k2 o e2, ?_⟩
            unfold outO
            rw [k1]
            dsimp only
            rw [e1]
            dsimp only
            rw [hp]
/-- how many operands there are -/
def Many (f : FA) (n : Nat) : Prop := ∀ S os S', f S = .ok os S' → os.length = n
theorem many_nil : Many aNil 0 := fun S os S' h => by cases h; rfl
theorem many_cons {f : FE} {g : FA} {n : Nat} (h : Many g n) : Many (aCons f g) (n + 1) := fun S os S' hf => by
  obtain ⟨o, S1, h1, h2⟩ := R.bind_ok hf
  obtain ⟨or, S2, h3, h4⟩ := R.bind_ok h2
  cases h4
  exact congrArg (· + 1) (h _ _ _ h3)
theorem dm_call {fas : FA} (F : FnD X.prog X.w X.K X.mg X.base n x np g) (hr : RoomG n X.A) (hg : Gl X x) (ha : DA X fas (e :: es)) (hm : Many fas np) (hdb : (x == ("__debug__" : Str)) = false := by decide)
    (he : starEach (e :: es) X.env = (false, eval e X.env) :: starEach es X.env := by rfl) (hpl : (backTo pos (starEach es X.env)).any (·.1) = false := by rfl) : DM X (mCall g fas) (.Call (.Name x p) (e :: es) [] pos) := by
  obtain ⟨f, fd, ps, hps, hF, hmg, hk, hb⟩ := F.ex
  exact PE.imp (pe_callG (E := fun _ _ _ => False) hF hr hg hmg hk hb ha hdb he hpl) fun σ H Q h => call_rd h hm
theorem dm_call0 (F : FnD X.prog X.w X.K X.mg X.base n x 0 g) (hr : RoomG n X.A) (hg : Gl X x) (hdb : (x == ("__debug__" : Str)) = false := by decide) : DM X (mCall g aNil) (.Call (.Name x p) [] [] pos) := by
  obtain ⟨f, fd, ps, hps, hF, hmg, hk, hb⟩ := F.ex
  refine PE.imp (pe_callG0 (E := fun _ _ _ => False) hF hr hg hmg hk hb hdb) fun σ H Q h => ?_
  obtain ⟨F', O, S, os, S', r, hf, k⟩ := call_rd h many_nil
  cases hf
  exact k [] H F' O (Stp.refl _ _ _) r .nil
end
/-! ### a def -/
def finOf (kp : Nat → Bool) (S : SS) : Nat → Nat → List (Option M)
  | _, 0 => []
  | i, n + 1 => (if kp i then S.at i else none) :: finOf kp S (i + 1) n
def runFn (np nl : Nat) (kp : Nat → Bool) (body : FS) : List M → CR := fun ms => if ms.length = np then (match body (ms.map some ++ List.replicate (nl - np) none) with
  | .ok (.rt m) S => .ok m (finOf kp S 0 np)
  | .ok .nx S => .ok (.d .non) (finOf kp S 0 np)
  | .ex x S => .ex x (finOf kp S 0 np)
  | _ => .no) else .no
theorem finOf_at {kp : Nat → Bool} {S : SS} {m : M} : ∀ {n i p : Nat}, (finOf kp S i n)[p]? = some (some m) → kp (i + p) = true ∧ S.at (i + p) = some m ∧ p < n
  | 0, i, p, h => by simp [finOf] at h
  | n + 1, i, 0, h => by
    simp only [finOf, List.getElem?_cons_zero, Option.some.injEq] at h
    split at h
    · rename_i hk; exact ⟨hk, h, Nat.succ_pos _⟩
    · cases h
  | n + 1, i, p + 1, h => by
    simp only [finOf, List.getElem?_cons_succ] at h
    obtain ⟨h1, h2, h3⟩ := finOf_at h
    have e : i + 1 + p = i + (p + 1) := by omega
    rw [e] at h1 h2
    exact ⟨h1, h2, Nat.succ_lt_succ h3⟩
theorem fn_ok0 {P : Program} {w : World} {K : PySem.W.Frag} {mg : Str → Option Value} {base : Heap} {x qual : Str} {st : Stmt} {f : Addr} {fd : FuncData} {N ps : List Str} {k : Nat} {kp : Nat → Bool} {body : FS} (F : Fun K x qual st f fd) (S : FnScope N ps (defScope st))
    (hbody : ∀ (cdv : Value) (A : Around) (outer : List Env) (s : Shared) (H : Hp) (E : XK), RoomG k (A.deeper (envOfC qual (defScope st) s.heap.objs.size f cdv)) → DSs (cxOf CX0 P w K mg base N qual (defScope st) f cdv A outer s H E).nox kp body (defBody st)) :
    FnG P w K mg base (k + 1) f fd ps (spD K ps.length (runFn ps.length N.length kp body)) := by
  refine ok_g F S (fun vs H Q E ⟨_, _, _, _, _, h, _⟩ => h) fun cdv A outer s H vs Q E hr hsp => ⟨_, hbody cdv A outer s H E hr, ?_⟩
  obtain ⟨F', O, ms, r, fin, hv, hm, bs, args, hg, k⟩ := hsp
  unfold runFn at hg
  rw [if_pos hm] at hg
  have hst : ∀ p v, vs[p]? = some v → (L2.start N vs)[p]? = some (some v) := fun p v e => by
    unfold L2.start
    have hl := (List.getElem?_eq_some_iff.mp e).1
    rw [List.getElem?_append_left (by simpa using hl), List.getElem?_map, e]
    rfl
  have r0 : Rp K H F' O (L2.start N vs) (ms.map some ++ List.replicate (N.length - ps.length) none) := by
    refine ⟨bs, by unfold L2.start; simp [hm, hv], fun i m e => ?_⟩
    have e' : ms[i]? = some m := by
      unfold SS.at at e
      by_cases hl : i < (ms.map some).length
      · rw [List.getElem?_append_left hl, List.getElem?_map] at e
        cases e2 : ms[i]? with
        | none => rw [e2] at e; cases e
        | some z => rw [e2] at e; exact e
      · rw [List.getElem?_append_right (by omega)] at e
        rw [List.getElem?_replicate] at e
        split at e <;> cases e
    obtain ⟨v, h1, h2⟩ := args i m e'
    exact ⟨v, hst i v h1, h2⟩
  have fins : ∀ {S' : SS} {σ' : St} {H' F'' : Hp} {O' : OW}, Rp K H' F'' O' σ' S' → Kp kp (L2.start N vs) σ' → ∀ p m, (finOf kp S' 0 ps.length)[p]? = some (some m) → ∃ w, vs[p]? = some w ∧ RepM K H' F'' O' (.s p, []) w m := fun {S' σ' H' F'' O'} r1 kk p m e => by
    obtain ⟨h1, h2, h3⟩ := finOf_at e
    rw [Nat.zero_add] at h1 h2
    obtain ⟨w, hw, rm⟩ := r1.sl p m h2
    have hl : p < vs.length := by rw [hv]; exact h3
    have e2 := List.getElem?_eq_getElem hl
    rw [kk.2 p h1, hst p _ e2] at hw
    cases hw
    exact ⟨_, e2, rm⟩
  show rdS K kp body _ (L2.start N vs) H
  cases eb : body (ms.map some ++ List.replicate (N.length - ps.length) none) with
  | no => rw [eb] at hg; cases hg
  | ex x S' => rw [eb] at hg; cases hg
  | ok fl S' =>
    rw [eb] at hg
    refine ⟨F', O, _, fl, S', r0, eb, ?_⟩
    cases fl with
    | nx =>
      cases hg
      exact fun σ' H' F'' O' st' r' kk => k .non H' F'' O' st' r'.bs .non (fins r' kk)
    | rt m =>
      cases hg
      exact fun v σ' H' F'' O' st' r' kk rm => k v H' F'' O' st' r'.bs rm (fins r' kk)
    | bk => cases hg
    | ct => cases hg
theorem fn_ok {P : Program} {w : World} {K : PySem.W.Frag} {mg : Str → Option Value} {base : Heap} {x qual : Str} {st : Stmt} {f : Addr} {fd : FuncData} {k : Nat} (N ps : List Str) (np nl : Nat) (kp : Nat → Bool) (body : FS) (g : List M → CR) (hnp : ps.length = np) (hnl : N.length = nl)
    (hg : g = runFn np nl kp body) (F : Fun K x qual st f fd) (S : FnScope N ps (defScope st))
    (hbody : ∀ (cdv : Value) (A : Around) (outer : List Env) (s : Shared) (H : Hp) (E : XK), RoomG k (A.deeper (envOfC qual (defScope st) s.heap.objs.size f cdv)) → DSs (cxOf CX0 P w K mg base N qual (defScope st) f cdv A outer s H E).nox kp body (defBody st)) :
    FnG P w K mg base (k + 1) f fd ps (spD K np g) := by
  subst hnp hnl hg
  exact fn_ok0 F S hbody

def semR (K : PySem.W.Frag) (g : D → D → Option M) : R2 := fun v u H Q => ∃ F x y m, Le F H ∧ View K H F v x ∧ View K H F u y ∧ g x y = some m ∧ Wish K H F m Q
theorem opD_of {X : Cx} {f : Value → Value → Sem Value} {g : D → D → Option M} (h : OpR X f (semR X.K g)) : OpD X f g := ⟨_, h, fun H F v u x y m Q l vx vy e w => ⟨F, x, y, m, l, vx, vy, e, w⟩⟩
section
variable {K : PySem.W.Frag} {H F : Hp} {Q : VK}
theorem Wish.int {i : Int} (w : Wish K H F (.d (.int i)) Q) : Q (.int i) H := w.d _ _ rfl (.int i)
theorem Wish.bl {i : Bool} (w : Wish K H F (.d (.bl i)) Q) : Q (.bl i) H := w.d _ _ rfl (.bl i)
theorem Wish.str {i : Str} (w : Wish K H F (.d (.str i)) Q) : Q (.str i) H := w.d _ _ rfl (.str i)
theorem Wish.of_d {x : D} (h : ∀ v, RepD K F v x → Q v H) (hn : ∀ zs, x ≠ .tup zs) : Wish K H F (.d x) Q :=
  { d := fun y v e r => by cases e; exact h v r
    t := fun zs p vs e _ _ => by cases e; exact absurd rfl (hn zs)
    l := fun zs p vs e _ _ => by cases e
    k := fun ks ds p vs e _ _ _ => by cases e }
theorem wish_bl {b : Bool} (h : Q (.bl b) H) : Wish K H F (.d (.bl b)) Q := .of_d (fun v r => by cases r; exact h) fun zs e => by cases e
theorem wish_int {b : Int} (h : Q (.int b) H) : Wish K H F (.d (.int b)) Q := .of_d (fun v r => by cases r; exact h) fun zs e => by cases e
end

/-! ### arithmetic -/
def mulOk (i j : Int) : Bool := decide (-(2 ^ 64) < i ∧ i < 2 ^ 64) || decide (-(2 ^ 64) < j ∧ j < 2 ^ 64)
def divOk (j : Int) : Bool := decide (j ≠ 0 ∧ -(2 ^ 128) < j ∧ j < 2 ^ 128)
/-- a text so many times -/
def repS (x : Str) (k : Nat) : Str := ⟨(List.replicate k x.cps).foldl (· ++ ·) #[]⟩
def addD : D → D → Option M
  | .int i, .int j => some (.d (.int (i + j)))
  | .int i, .bl b => some (.d (.int (i + b2i b)))
  | .str x, .str y => if x.length + y.length ≤ line then some (.d (.str (x ++ y))) else none
  | .lst xs, .lst ys => if xs.length + ys.length ≤ line then some (.lst (xs ++ ys)) else none
  | .tup xs, .tup ys => if xs.length + ys.length ≤ line then some (.d (.tup (xs ++ ys))) else none
  | _, _ => none
def subD : D → D → Option M
  | .int i, .int j => some (.d (.int (i - j)))
  | _, _ => none
def mulD : D → D → Option M
  | .int i, .int j => if mulOk i j = true then some (.d (.int (i * j))) else none
  | .lst xs, .int k => if (-(2 ^ 63) ≤ k ∧ k < 2 ^ 63) ∧ xs.length * k.toNat ≤ line then some (.lst (List.replicate k.toNat xs).flatten) else none
  | .tup xs, .int k => if 0 ≤ k ∧ k ≤ 10000 ∧ xs ≠ [] ∧ xs.length ≤ 100 then some (.d (.tup (List.replicate k.toNat xs).flatten)) else none
  | .str x, .int k => if 0 ≤ k ∧ k ≤ 1000 ∧ x.length ≤ 1000 then some (.d (.str (repS x k.toNat))) else none
  | _, _ => none
def fdivD : D → D → Option M
  | .int i, .int j => if divOk j = true then some (.d (.int (i.fdiv j))) else none
  | _, _ => none
def modD : D → D → Option M
  | .int i, .int j => if j ≠ 0 then some (.d (.int (i.fmod j))) else none
  | _, _ => none
def powD : D → D → Option M
  | .int i, .int j => if 0 ≤ j ∧ j ≤ 1000000 ∧ i.natAbs < 2 ^ 64 then some (.d (.int (i ^ j.toNat))) else none
  | _, _ => none
theorem RepDs.rep {K : PySem.W.Frag} {F : Hp} {v : List V} {d : List D} (h : RepDs K F v d) : ∀ k : Nat, RepDs K F (List.replicate k v).flatten (List.replicate k d).flatten
  | 0 => .nil
  | k + 1 => by
    rw [List.replicate_succ, List.flatten_cons, List.replicate_succ, List.flatten_cons]
    exact h.append (RepDs.rep h k)
section
variable {X : Cx}
theorem Inv.rdl {pins : List (Addr × Obj)} {σ : St} {H : Hp} {s : Shared} {l : Addr} {xs : List V} (I : Inv X pins σ H s) (h : Rd H l (.lst xs)) : xs.length ≤ sizeLine ∧ ∃ (its : List Value) (n : Nat), Vals xs its ∧ xs.length = its.length ∧ s.heap.get? l = some { cls := .type "list", data := .seq its.toArray n } := by
  obtain ⟨z, its, n, r, e⟩ := h.ok I.hok
  exact ⟨z, its, n, r, r.length, e⟩
theorem op_catR : OpR X (binaryOp .Add) (fun x y H Q => ∃ l b xs zs, x = .ref l ∧ y = .ref b ∧ Rd H l (.lst xs) ∧ Rd H b (.lst zs) ∧ xs.length + zs.length ≤ sizeLine ∧ ∀ p, H p = none → Q (.ref p) (upd H p (.lst (xs ++ zs)))) := by
  intro pins s σ H x y v u Q I rx ry h
  obtain ⟨l, b, xs, zs, rfl, rfl, hH, hB, hz, q⟩ := h
  cases rx
  cases ry
  obtain ⟨z, its, n, r, hl, e⟩ := Inv.rdl I hH
  obtain ⟨z2, its2, n2, r2, hl2, e2⟩ := Inv.rdl I hB
  refine PySem.P.add_list e e2 ?_ (by rw [List.size_toArray, List.size_toArray]; omega)
  have ea : its.toArray ++ its2.toArray = (its ++ its2).toArray := by simp
  rw [ea]
  exact ⟨.ref _, _, I.lnew (t' := s.toks) (r.append r2) (by rw [List.length_append]; omega), rfl, q _ I.fresh⟩
theorem op_fdivA : OpR X (binaryOp .FloorDiv) (rI (fun _ j => divOk j = true) fun i j => .int (i.fdiv j)) := opI fun i j _ _ _ _ _ hc q => by
  have h := of_decide_eq_true hc
  exact floordiv_int h.1 q (.inl (PyProof.noPylong_of_log2 (Nat.lt_of_lt_of_le (PySem.Flt.log2_lt_of (k := 128) (by decide) (by omega)) (by decide))))
theorem iop_fdivA : OpR X (inplaceOp .FloorDiv) (rI (fun _ j => divOk j = true) fun i j => .int (i.fdiv j)) := opI fun i j _ _ _ _ _ hc q => by
  have h := of_decide_eq_true hc
  exact ifloordiv_int h.1 q (.inl (PyProof.noPylong_of_log2 (Nat.lt_of_lt_of_le (PySem.Flt.log2_lt_of (k := 128) (by decide) (by omega)) (by decide))))
theorem mulOk_c {i j : Int} (h : mulOk i j = true) : CMul i j := by
  unfold mulOk at h
  rw [Bool.or_eq_true] at h
  rcases h with h | h
  · exact .inl (of_decide_eq_true h)
  · exact .inr (of_decide_eq_true h)
theorem od_add : OpD X (binaryOp .Add) addD := opD_of (by
  intro pins s σ H x y v u Q I rx ry ⟨F, a, b, m, l, va, vb, e, w⟩
  cases a with
  | int i =>
    obtain rfl := va.int
    cases b with
    | int j => obtain rfl := vb.int; cases e; exact op_add pins s σ H _ _ v u Q I rx ry ⟨i, j, rfl, rfl, w.int⟩
    | bl j => obtain rfl := vb.bl; cases e; exact op_add_ib pins s σ H _ _ v u Q I rx ry ⟨i, j, rfl, rfl, w.int⟩
    | _ => cases e
  | str i =>
    obtain rfl := va.str
    cases b with
    | str j =>
      obtain rfl := vb.str
      have e : (if i.length + j.length ≤ line then some (M.d (.str (i ++ j))) else none) = some m := e
      split at e
      · rename_i hz; cases e; exact op_add_str pins s σ H _ _ v u Q I rx ry ⟨i, j, rfl, rfl, by rw [← line_eq]; exact hz, w.str⟩
      · cases e
    | _ => cases e
  | lst i =>
    obtain ⟨a1, vs, rfl, h1, r1⟩ := va.list l
    cases b with
    | lst j =>
      obtain ⟨a2, vs2, rfl, h2, r2⟩ := vb.list l
      have e : (if i.length + j.length ≤ line then some (M.lst (i ++ j)) else none) = some m := e
      split at e
      · rename_i hz
        cases e
        exact op_catR pins s σ H _ _ v u Q I rx ry ⟨a1, a2, vs, vs2, rfl, rfl, h1, h2, by rw [r1.len, r2.len, ← line_eq]; exact hz, fun p hp => w.l _ p _ rfl hp (r1.append r2)⟩
      · cases e
    | _ => cases e
  | tup i =>
    obtain ⟨a1, vs, rfl, h1, r1⟩ := va.tuple l
    cases b with
    | tup j =>
      obtain ⟨a2, vs2, rfl, h2, r2⟩ := vb.tuple l
      have e : (if i.length + j.length ≤ line then some (M.d (.tup (i ++ j))) else none) = some m := e
      split at e
      · rename_i hz
        cases e
        refine op_catA pins s σ H _ _ v u Q I rx ry ⟨a1, a2, vs, vs2, rfl, rfl, h1, h2, by rw [r1.len, r2.len, ← line_eq]; exact hz, fun hv => ?_, fun _ hv => ?_, fun _ _ p hp => w.t _ p _ rfl hp (r1.append r2)⟩
        · subst hv
          cases r1
          cases vb with
          | fz h => exact w.d _ _ rfl h
        · subst hv
          cases r2
          cases va with
          | fz h => exact w.d _ _ rfl (by rw [List.append_nil]; exact h)
      · cases e
    | _ => cases e
  | _ => cases e)
theorem od_sub : OpD X (binaryOp .Sub) subD := opD_of (by
  intro pins s σ H x y v u Q I rx ry ⟨F, a, b, m, l, va, vb, e, w⟩
  cases a with
  | int i =>
    obtain rfl := va.int
    cases b with
    | int j => obtain rfl := vb.int; cases e; exact op_sub pins s σ H _ _ v u Q I rx ry ⟨i, j, rfl, rfl, w.int⟩
    | _ => cases e
  | _ => cases e)
theorem op_repR : OpR X (binaryOp .Mult) (fun x y H Q => ∃ l k xs, x = .ref l ∧ y = .int k ∧ Rd H l (.lst xs) ∧ -(2 ^ 63) ≤ k ∧ k < 2 ^ 63 ∧ xs.length * k.toNat ≤ sizeLine ∧
  ∀ p, H p = none → Q (.ref p) (upd H p (.lst (List.replicate k.toNat xs).flatten))) := by
  intro pins s σ H x y v u Q I rx ry h
  obtain ⟨l, k, xs, rfl, rfl, hH, h1, h2, hz, q⟩ := h
  cases rx
  obtain ⟨t, rfl⟩ := ry
  obtain ⟨z, its, n, r, hl, e⟩ := Inv.rdl I hH
  have hlen : its.toArray.size * k.toNat ≤ sizeLine := by rw [List.size_toArray, ← hl]; exact hz
  have hcap : ¬ its.toArray.size * k.toNat > (2 ^ 63 - 1) / 8 := by
    have : (sizeLine : Nat) ≤ (2 ^ 63 - 1) / 8 := by decide
    omega
  have hfit : ¬ (!Builtin.List.listFitsIndex k) = true := by
    rw [fitsIndex_both h1 h2]
    exact Bool.false_ne_true
  have hlong : ¬ Builtin.List.listTooLong (its.toArray.size * k.toNat) = true := by
    rw [notLongL hlen]
    exact Bool.false_ne_true
  have hnew : List.foldl (fun x1 x2 => x1 ++ x2) #[] (List.replicate (if its.toArray.isEmpty = true then 0 else k.toNat) its.toArray) = (List.replicate k.toNat its).flatten.toArray := by
    have f0 : ∀ m : Nat, List.foldl (fun x1 x2 => x1 ++ x2) #[] (List.replicate m its.toArray) = (List.replicate m its).flatten.toArray := fun m => by
      have := foldl_rep its m []
      rw [List.nil_append] at this
      exact this
    rw [f0]
    cases its with
    | nil => simp
    | cons a r' => rw [if_neg (by simp)]
  refine wpAny_binaryOp_repeat_ref (T := "list") (U := "int") (by decide) ⟨_, e, rfl⟩ (fun s' => typeIs_int s' k t) noFill_list_mul PySem.F.fills_int_mul PySem.F.slot_int_rmul repeat_list PySem.F.slot_int_index.lookup
    (call_meets PySem.F.slot_int_rmul (typeIs_int s k t) PySem.F.entry_int_rmul (PySem.F.args_int_rmul_2 _ _) (int___rmul___int_list k t l its.toArray n)
      ⟨e, rfl, ⟨_, e, rfl⟩, call_meets PySem.F.slot_list_mul ⟨_, e, rfl⟩ PySem.F.entry_list_mul (PySem.F.args_list_mul_2 _ _) (AutoListH.list___mul___list_int_3 l its.toArray n k t hfit hcap hlong) ⟨e, ?_⟩⟩)
  rw [hnew]
  exact ⟨.ref _, _, I.lnew (t' := s.toks) (r.rep k.toNat) (by rw [PyProof.Rows.lm_len_rep_flat, Nat.mul_comm]; exact hz), rfl, q _ I.fresh⟩
theorem tuple_mulW0 (l : Addr) (items : Array Value) (n : Nat) (dd : Option Addr) (sl : Array (Option Value)) (x : Int) (u : Tok) (c0 : (decide (x < -(2 ^ 63)) || decide (x ≥ 2 ^ 63)) = false) (c1 : (items.isEmpty || x == 1) = false) (c2 : (decide (x ≤ 0) || items.isEmpty) = true) :
    Meets (Builtin.«tuple.__mul__» ⟨[.ref l, .int x u], []⟩) (fun _ R s => s.heap.get? l = some { cls := .type "tuple", dict := dd, data := .seq items n, slots := sl } ∧
      R (.ok (.ret (Value.ref s.heap.objs.size))) { s with heap := s.heap.push { cls := Value.type "tuple", data := Data.seq #[] }, toks := s.toks }) :=
  .of_wp fun prog w A R s h => by
    obtain ⟨hp, g, d, tk, os⟩ := s
    obtain ⟨hl, h⟩ := h
    have f1 := AutoSeq1.idx_int
    wp_walk using wpAny_loadPart' hl
    repeat (first
      | (refine wpAny_ite_false (decide_eq_false (by rw [c0]; exact Bool.false_ne_true)) ?_; wp_walk using wpAny_loadPart' hl)
      | (refine wpAny_ite_false (decide_eq_false (by rw [c1]; exact Bool.false_ne_true)) ?_; wp_walk using wpAny_loadPart' hl)
      | (refine wpAny_ite_true (decide_eq_true c2) ?_; wp_walk using wpAny_loadPart' hl))
    exact ⟨_, rfl, h⟩
theorem tuple_mulW1 (l : Addr) (items : Array Value) (n : Nat) (dd : Option Addr) (sl : Array (Option Value)) (x : Int) (u : Tok) (c0 : (decide (x < -(2 ^ 63)) || decide (x ≥ 2 ^ 63)) = false) (c1 : (items.isEmpty || x == 1) = true) :
    Meets (Builtin.«tuple.__mul__» ⟨[.ref l, .int x u], []⟩) (fun _ R s => s.heap.get? l = some { cls := .type "tuple", dict := dd, data := .seq items n, slots := sl } ∧
      R (.ok (.ret (Value.ref l))) { s with heap := s.heap, toks := s.toks }) :=
  .of_wp fun prog w A R s h => by
    obtain ⟨hp, g, d, tk, os⟩ := s
    obtain ⟨hl, h⟩ := h
    have f1 := AutoSeq1.idx_int
    wp_walk using wpAny_loadPart' hl
    repeat (first
      | (refine wpAny_ite_false (decide_eq_false (by rw [c0]; exact Bool.false_ne_true)) ?_; wp_walk using wpAny_loadPart' hl)
      | (refine wpAny_ite_true (decide_eq_true c1) ?_; wp_walk using wpAny_loadPart' hl))
    exact ⟨_, rfl, h⟩
theorem op_repTB : OpR X (binaryOp .Mult) (fun x y H Q => ∃ l k xs, x = .ref l ∧ y = .int k ∧ SqT X.K H l xs ∧ xs ≠ [] ∧ 2 ≤ k ∧ k ≤ 10000 ∧ xs.length ≤ 100 ∧ ∀ p, H p = none → Q (.ref p) (upd H p (.tup (List.replicate k.toNat xs).flatten))) := by
  intro pins s σ H x y v u Q I rx ry h
  obtain ⟨l, k, xs, rfl, rfl, hT, hne, h1, h2, hz, q⟩ := h
  cases rx
  obtain ⟨t, rfl⟩ := ry
  obtain ⟨its, r, ⟨⟨cls, dd, data, sl⟩, ho, hc, n, hd⟩, hs⟩ := I.tuple hT
  simp only at hc hd
  subst hc hd
  have hle : its.length = xs.length := r.length.symm
  have hn : its ≠ [] := fun e => hne (by
    rw [e] at hle
    exact List.eq_nil_of_length_eq_zero hle.symm)
  have hi : its.toArray.isEmpty = false := by
    cases its with
    | nil => exact absurd rfl hn
    | cons a b => rfl
  have hsz0 : its.toArray.size = xs.length := by rw [List.size_toArray, hle]
  have hm : ((its.toArray.size : Nat) : Int) * k ≤ 1000000 := by
    rw [hsz0]
    have a1 : ((xs.length : Nat) : Int) * k ≤ 100 * k := Int.mul_le_mul_of_nonneg_right (by omega) (by omega)
    omega
  have flen : (List.replicate k.toNat its).flatten.length ≤ sizeLine := by
    rw [PyProof.Rows.lm_len_rep_flat, hle, sizeLine_eq]
    have a1 : k.toNat * xs.length ≤ 10000 * 100 := Nat.mul_le_mul (by omega) hz
    omega
  have c0 : (decide (k < -(2 ^ 63)) || decide (k ≥ 2 ^ 63)) = false := by
    rw [decide_eq_false (by omega), decide_eq_false (by omega)] <;> rfl
  have c1 : (its.toArray.isEmpty || k == 1) = false := by
    rw [hi, Bool.false_or]
    exact beq_eq_false_iff_ne.mpr (by omega)
  have c2 : (decide (k ≤ 0) || its.toArray.isEmpty) = false := by
    rw [hi, Bool.or_false]
    exact decide_eq_false (by omega)
  have c4 : Builtin.Tuple.tupleTooMany (((its.toArray.size : Nat) : Int) * k) = false := by
    unfold Builtin.Tuple.tupleTooMany
    rw [sizeLine_eq]
    exact decide_eq_false (by omega)
  refine wpAny_binaryOp_repeat_ref (T := "tuple") (U := "int") (by decide) ⟨_, ho, rfl⟩ (fun s' => typeIs_int s' k t) noFill_tuple_mul PySem.F.fills_int_mul PySem.F.slot_int_rmul repeat_tuple PySem.F.slot_int_index.lookup
    (call_meets PySem.F.slot_int_rmul (typeIs_int s k t) PySem.F.entry_int_rmul (PySem.F.args_int_rmul_2 _ _) (int_rmul_tuple k t l its.toArray n dd sl)
      ⟨ho, rfl, ⟨_, ho, rfl⟩, call_meets PySem.F.slot_tuple_mul ⟨_, ho, rfl⟩ PySem.F.entry_tuple_mul (PySem.F.args_tuple_mul_2 _ _) (tuple_mulW l its.toArray n dd sl k t c0 c1 c2 (by omega) c4 (by rw [size_rep, List.size_toArray]; exact flen)) ⟨ho, ?_⟩⟩)
  rw [size_rep]
  refine ⟨.ref s.heap.objs.size, _, I.laid (t' := s.toks) (o := .tup (List.replicate k.toNat xs).flatten) (fun b ob q => Heap.get?_push_of_some _ q) (Nat.le_refl _) ?_, rfl, q _ (I.hok.fresh (Nat.le_refl _))⟩
  exact ⟨by rw [PyProof.Rows.lm_len_rep_flat, sizeLine_eq]; have a1 : k.toNat * xs.length ≤ 10000 * 100 := Nat.mul_le_mul (by omega) hz; omega, _, r.rep k.toNat, IsTup.new _ _⟩
theorem op_repTA : OpR X (binaryOp .Mult) (fun x y H Q => ∃ l k xs, x = .ref l ∧ y = .int k ∧ SqT X.K H l xs ∧ xs ≠ [] ∧ 0 ≤ k ∧ k ≤ 10000 ∧ xs.length ≤ 100 ∧ (k = 1 → Q (.ref l) H) ∧ (k ≠ 1 → ∀ p, H p = none → Q (.ref p) (upd H p (.tup (List.replicate k.toNat xs).flatten)))) := by
  intro pins s σ H x y v u Q I rx ry h
  obtain ⟨l, k, xs, rfl, rfl, hT, hne, h1, h2, hz, q1, q⟩ := h
  by_cases h2k : 2 ≤ k
  · exact op_repTB pins s σ H _ _ v u Q I rx ry ⟨l, k, xs, rfl, rfl, hT, hne, h2k, h2, hz, q (by omega)⟩
  cases rx
  obtain ⟨t, rfl⟩ := ry
  obtain ⟨its, r, ⟨⟨cls, dd, data, sl⟩, ho, hc, n, hd⟩, hs⟩ := I.tuple hT
  simp only at hc hd
  subst hc hd
  have hle : its.length = xs.length := r.length.symm
  have hn : its ≠ [] := fun e => hne (by
    rw [e] at hle
    exact List.eq_nil_of_length_eq_zero hle.symm)
  have hi : its.toArray.isEmpty = false := by
    cases its with
    | nil => exact absurd rfl hn
    | cons a b => rfl
  have c0 : (decide (k < -(2 ^ 63)) || decide (k ≥ 2 ^ 63)) = false := by
    rw [decide_eq_false (by omega), decide_eq_false (by omega)] <;> rfl
  by_cases h1k : k = 1
  · refine wpAny_binaryOp_repeat_ref (T := "tuple") (U := "int") (by decide) ⟨_, ho, rfl⟩ (fun s' => typeIs_int s' k t) noFill_tuple_mul PySem.F.fills_int_mul PySem.F.slot_int_rmul repeat_tuple PySem.F.slot_int_index.lookup
      (call_meets PySem.F.slot_int_rmul (typeIs_int s k t) PySem.F.entry_int_rmul (PySem.F.args_int_rmul_2 _ _) (int_rmul_tuple k t l its.toArray n dd sl)
        ⟨ho, rfl, ⟨_, ho, rfl⟩, call_meets PySem.F.slot_tuple_mul ⟨_, ho, rfl⟩ PySem.F.entry_tuple_mul (PySem.F.args_tuple_mul_2 _ _) (tuple_mulW1 l its.toArray n dd sl k t c0 (by rw [h1k]; simp)) ⟨ho, ?_⟩⟩)
    exact ⟨.ref l, H, I, rfl, q1 h1k⟩
  · have h0 : k = 0 := by omega
    subst h0
    have c1 : (its.toArray.isEmpty || (0 : Int) == 1) = false := by rw [hi]; rfl
    refine wpAny_binaryOp_repeat_ref (T := "tuple") (U := "int") (by decide) ⟨_, ho, rfl⟩ (fun s' => typeIs_int s' 0 t) noFill_tuple_mul PySem.F.fills_int_mul PySem.F.slot_int_rmul repeat_tuple PySem.F.slot_int_index.lookup
      (call_meets PySem.F.slot_int_rmul (typeIs_int s 0 t) PySem.F.entry_int_rmul (PySem.F.args_int_rmul_2 _ _) (int_rmul_tuple 0 t l its.toArray n dd sl)
        ⟨ho, rfl, ⟨_, ho, rfl⟩, call_meets PySem.F.slot_tuple_mul ⟨_, ho, rfl⟩ PySem.F.entry_tuple_mul (PySem.F.args_tuple_mul_2 _ _) (tuple_mulW0 l its.toArray n dd sl 0 t c0 c1 (by simp)) ⟨ho, ?_⟩⟩)
    refine ⟨.ref s.heap.objs.size, _, I.laid (t' := s.toks) (o := .tup []) (fun b ob q => Heap.get?_push_of_some _ q) (Nat.le_refl _) ?_, rfl, q (by decide) _ (I.hok.fresh (Nat.le_refl _))⟩
    exact ⟨Nat.zero_le _, [], .nil, IsTup.new _ _⟩
theorem repS_0 (x : Str) : repS x 0 = Str.empty := rfl
theorem repS_1 (x : Str) : repS x 1 = x := by
  show Str.mk (#[] ++ x.cps) = x
  rw [Array.empty_append]
theorem repS_fold (k : Nat) (a b : Array Nat) (h : b = #[]) : (List.replicate k b).foldl (· ++ ·) a = a := by
  subst h
  induction k with
  | zero => rfl
  | succ k ih => rw [List.replicate_succ, List.foldl_cons, Array.append_empty, ih]
theorem repS_e (x : Str) (h : x.length = 0) (k : Nat) : repS x k = x := by
  have e : x.cps = #[] := Array.eq_empty_of_size_eq_zero h
  show Str.mk ((List.replicate k x.cps).foldl (· ++ ·) #[]) = x
  rw [repS_fold _ _ _ e]
  cases x
  exact congrArg _ e.symm
theorem repS_size (x : Array Nat) : ∀ (k : Nat) (a : Array Nat), ((List.replicate k x).foldl (· ++ ·) a).size = a.size + k * x.size
  | 0, a => by simp
  | k + 1, a => by rw [List.replicate_succ, List.foldl_cons, repS_size x k, Array.size_append, Nat.succ_mul]; omega
theorem repS_len (x : Str) (k : Nat) : (repS x k).length = k * x.length := by
  show ((List.replicate k x.cps).foldl (· ++ ·) #[]).size = k * x.cps.size
  rw [repS_size]
  simp
theorem op_mul_str : OpR X (binaryOp .Mult) (fun a b H Q => ∃ x k, a = .str x ∧ b = .int k ∧ 0 ≤ k ∧ k ≤ 1000 ∧ x.length ≤ 1000 ∧ Q (.str (repS x k.toNat)) H) := by
  intro pins s σ H a b v u Q I ra rb ⟨x, k, ea, eb, h0, h1, hl, q⟩
  subst ea eb
  obtain ⟨t, rfl⟩ := ra
  obtain ⟨t2, rfl⟩ := rb
  have hml : x.length * k.toNat ≤ 1000 * 1000 := Nat.mul_le_mul hl (by omega)
  refine PySem.P.mul_str (by rw [decide_eq_false (by omega), decide_eq_false (by omega)]; rfl) (fun _ _ => ?_) (fun _ _ => ?_) ?_
  · have : (2 ^ 63 - 1) / k ≥ (2 ^ 63 - 1) / 1000 := by
      by_cases hk : k = 0
      · omega
      · exact (Int.le_ediv_iff_mul_le (by omega)).mpr (by omega)
    omega
  · show decide _ = false
    rw [sizeLine_eq]
    exact decide_eq_false (by omega)
  · by_cases c : k < 1
    · rw [if_pos c]
      have : k = 0 := by omega
      subst this
      exact ⟨by decide, .str (repS x 0), H, I.kept (t' := s.toks + 1) (fun _ _ z => z), ⟨_, rfl⟩, q⟩
    · rw [if_neg c]
      split
      · rename_i hc
        have : repS x k.toNat = x := by
          rw [Bool.or_eq_true] at hc
          rcases hc with hc | hc
          · have : k = 1 := by simpa using hc
            subst this
            exact repS_1 x
          · exact repS_e x (by simpa using hc) _
        rw [this] at q
        exact ⟨.str x, H, I, ⟨_, rfl⟩, q⟩
      · refine ⟨?_, .str (repS x k.toNat), H, I.kept (t' := s.toks + 1) (fun _ _ z => z), ⟨_, rfl⟩, q⟩
        show (repS x k.toNat).length ≤ sizeLine
        rw [repS_len, sizeLine_eq, Nat.mul_comm]
        omega
theorem od_mul : OpD X (binaryOp .Mult) mulD := opD_of (by
  intro pins s σ H x y v u Q I rx ry ⟨F, a, b, m, l, va, vb, e, w⟩
  cases a with
  | int i =>
    obtain rfl := va.int
    cases b with
    | int j =>
      obtain rfl := vb.int
      have e : (if mulOk i j = true then some (M.d (.int (i * j))) else none) = some m := e
      split at e
      · rename_i hz; cases e; exact op_mul pins s σ H _ _ v u Q I rx ry ⟨i, j, rfl, rfl, mulOk_c hz, w.int⟩
      · cases e
    | _ => cases e
  | lst i =>
    obtain ⟨a1, vs, rfl, h1, r1⟩ := va.list l
    cases b with
    | int k =>
      obtain rfl := vb.int
      have e : (if (-(2 ^ 63) ≤ k ∧ k < 2 ^ 63) ∧ i.length * k.toNat ≤ line then some (M.lst (List.replicate k.toNat i).flatten) else none) = some m := e
      split at e
      · rename_i hz
        cases e
        exact op_repR pins s σ H _ _ v u Q I rx ry ⟨a1, k, vs, rfl, rfl, h1, hz.1.1, hz.1.2, by rw [r1.len, ← line_eq]; exact hz.2, fun p hp => w.l _ p _ rfl hp (r1.rep _)⟩
      · cases e
    | _ => cases e
  | tup i =>
    cases b with
    | int k =>
      obtain rfl := vb.int
      have e : (if 0 ≤ k ∧ k ≤ 10000 ∧ i ≠ [] ∧ i.length ≤ 100 then some (M.d (.tup (List.replicate k.toNat i).flatten)) else none) = some m := e
      split at e
      · rename_i hz
        cases e
        have hne := hz.2.2.1
        obtain ⟨a1, vs, ev, h1, r1⟩ := va.tuple l
        subst ev
        refine op_repTA pins s σ H _ _ v u Q I rx ry ⟨a1, k, vs, rfl, rfl, h1, ?_, hz.1, hz.2.1, by rw [r1.len]; exact hz.2.2.2, fun hk => ?_, fun _ p hp => w.t _ p _ rfl hp (r1.rep _)⟩
        · intro z
          subst z
          cases r1
          exact hne rfl
        · subst hk
          cases va with
          | fz h => exact w.d _ _ rfl (by simpa using h)
      · cases e
    | _ => cases e
  | str i =>
    cases b with
    | int k =>
      obtain rfl := vb.int
      obtain rfl := va.str
      have e : (if 0 ≤ k ∧ k ≤ 1000 ∧ i.length ≤ 1000 then some (M.d (.str (repS i k.toNat))) else none) = some m := e
      split at e
      · rename_i hz
        cases e
        exact op_mul_str pins s σ H _ _ v u Q I rx ry ⟨i, k, rfl, rfl, hz.1, hz.2.1, hz.2.2, w.str⟩
      · cases e
    | _ => cases e
  | _ => cases e)
theorem od_fdiv : OpD X (binaryOp .FloorDiv) fdivD := opD_of (by
  intro pins s σ H x y v u Q I rx ry ⟨F, a, b, m, l, va, vb, e, w⟩
  cases a with
  | int i =>
    obtain rfl := va.int
    cases b with
    | int j =>
      obtain rfl := vb.int
      have e : (if divOk j = true then some (M.d (.int (i.fdiv j))) else none) = some m := e
      split at e
      · rename_i hz; cases e; exact op_fdivA pins s σ H _ _ v u Q I rx ry ⟨i, j, rfl, rfl, hz, w.int⟩
      · cases e
    | _ => cases e
  | _ => cases e)
theorem od_mod : OpD X (binaryOp .Mod) modD := opD_of (by
  intro pins s σ H x y v u Q I rx ry ⟨F, a, b, m, l, va, vb, e, w⟩
  cases a with
  | int i =>
    obtain rfl := va.int
    cases b with
    | int j =>
      obtain rfl := vb.int
      have e : (if j ≠ 0 then some (M.d (.int (i.fmod j))) else none) = some m := e
      split at e
      · rename_i hz; cases e; exact op_modN pins s σ H _ _ v u Q I rx ry ⟨i, j, rfl, rfl, hz, w.int⟩
      · cases e
    | _ => cases e
  | _ => cases e)
theorem od_pow : OpD X (binaryOp .Pow) powD := opD_of (by
  intro pins s σ H x y v u Q I rx ry ⟨F, a, b, m, l, va, vb, e, w⟩
  cases a with
  | int i =>
    obtain rfl := va.int
    cases b with
    | int j =>
      obtain rfl := vb.int
      have e : (if 0 ≤ j ∧ j ≤ 1000000 ∧ i.natAbs < 2 ^ 64 then some (M.d (.int (i ^ j.toNat))) else none) = some m := e
      split at e
      · rename_i hz; cases e; exact op_pow pins s σ H _ _ v u Q I rx ry ⟨i, j, rfl, rfl, hz, w.int⟩
      · cases e
    | _ => cases e
  | _ => cases e)
/-- -a -/
def mNeg (f : FE) : FM := fun S => (f S).bind fun o S => match o.get S with
  | some (.int i) => .ok (.d (.int (-i))) S
  | _ => .no
theorem dm_neg {e : Expr} {pos : Pos} {f : FE} (h : DE X f e) : DM X (mNeg f) (.UnaryOp .USub e pos) := PE.imp (pe_un un_neg h) fun σ H Q ⟨F, O, S, m, S', r, hf, k⟩ => by
  obtain ⟨o, S1, h1, h2⟩ := R.bind_ok hf
  refine ⟨F, O, S, o, S1, r, h1, fun v H1 F1 O1 st1 r1 ro => ?_⟩
  cases eg : o.get S1 with
  | none => rw [eg] at h2; cases h2
  | some d =>
    rw [eg] at h2
    cases d with
    | int i =>
      cases h2
      obtain rfl := (r1.view ro eg).int
      exact ⟨i, rfl, k _ H1 F1 O1 st1 r1 (.int _)⟩
    | _ => cases h2


end
/-! ### comparisons -/
mutual
def D.py : D → PyData
  | .non => .none
  | .bl b => .bool b
  | .int i => .int i
  | .str x => .str x
  | .tup xs => .tuple (D.pys xs)
  | .lst xs => .list (D.pys xs)
  | _ => .none
def D.pys : List D → List PyData
  | [] => []
  | x :: xs => D.py x :: D.pys xs
end
mutual
def D.eqb : D → D → Bool
  | .non, y => match y with
    | .non => true
    | _ => false
  | .bl a, y => match y with
    | .bl b => a == b
    | .int j => (if a then 1 else 0) == j
    | _ => false
  | .int i, y => match y with
    | .bl b => i == (if b then 1 else 0)
    | .int j => i == j
    | _ => false
  | .str x, y => match y with
    | .str z => x == z
    | _ => false
  | .lst xs, y => match y with
    | .lst ys => D.eqbs xs ys
    | _ => false
  | .tup xs, y => match y with
    | .tup ys => D.eqbs xs ys
    | _ => false
  | _, _ => false
def D.eqbs : List D → List D → Bool
  | [], ys => match ys with
    | [] => true
    | _ :: _ => false
  | x :: xs, ys => match ys with
    | [] => false
    | y :: ys => D.eqb x y && D.eqbs xs ys
end
mutual
/-- data that == goes through -/
def D.pl : D → Bool
  | .non => true
  | .bl _ => true
  | .int _ => true
  | .str _ => true
  | .tup xs => D.pls xs
  | .lst xs => D.pls xs
  | _ => false
def D.pls : List D → Bool
  | [] => true
  | x :: xs => D.pl x && D.pls xs
end
mutual
def D.dep : D → Nat
  | .tup xs => D.deps xs + 1
  | .lst xs => D.deps xs + 1
  | _ => 0
def D.deps : List D → Nat
  | [] => 0
  | x :: xs => max (D.dep x) (D.deps xs)
end
mutual
theorem D.py_dep : ∀ d : D, d.pl = true → d.py.depth = d.dep
  | .non, _ => rfl
  | .bl _, _ => rfl
  | .int _, _ => rfl
  | .str _, _ => rfl
  | .tup xs, h => by
    show PyData.depthAll (D.pys xs) + 1 = D.deps xs + 1
    rw [D.pys_dep xs h]
  | .lst xs, h => by
    show PyData.depthAll (D.pys xs) + 1 = D.deps xs + 1
    rw [D.pys_dep xs h]
theorem D.pys_dep : ∀ ds : List D, D.pls ds = true → PyData.depthAll (D.pys ds) = D.deps ds
  | [], _ => rfl
  | x :: xs, h => by
    have h : (D.pl x && D.pls xs) = true := h
    rw [Bool.and_eq_true] at h
    show max (D.py x).depth (PyData.depthAll (D.pys xs)) = max (D.dep x) (D.deps xs)
    rw [D.py_dep x h.1, D.pys_dep xs h.2]
end
mutual
theorem D.py_plain : ∀ d : D, d.pl = true → d.py.plain = true
  | .non, _ => rfl
  | .bl _, _ => rfl
  | .int _, _ => rfl
  | .str _, _ => rfl
  | .tup xs, h => D.pys_plain xs h
  | .lst xs, h => D.pys_plain xs h
theorem D.pys_plain : ∀ ds : List D, D.pls ds = true → PyData.plainAll (D.pys ds) = true
  | [], _ => rfl
  | x :: xs, h => by
    have h : (D.pl x && D.pls xs) = true := h
    rw [Bool.and_eq_true] at h
    show ((D.py x).plain && PyData.plainAll (D.pys xs)) = true
    rw [D.py_plain x h.1, D.pys_plain xs h.2]
    rfl
end
mutual
theorem D.py_eqv : ∀ a b : D, a.pl = true → b.pl = true → PyData.eqv a.py b.py = D.eqb a b
  | .non, b, _, hb => by cases b <;> first | rfl | cases hb
  | .bl _, b, _, hb => by cases b <;> first | rfl | cases hb
  | .int _, b, _, hb => by cases b <;> first | rfl | cases hb
  | .str _, b, _, hb => by cases b <;> first | rfl | cases hb
  | .tup xs, b, ha, hb => by
    cases b with
    | tup ys => exact D.pys_eqv xs ys ha hb
    | _ => first | rfl | cases hb
  | .lst xs, b, ha, hb => by
    cases b with
    | lst ys => exact D.pys_eqv xs ys ha hb
    | _ => first | rfl | cases hb
theorem D.pys_eqv : ∀ a b : List D, D.pls a = true → D.pls b = true → PyData.eqvAll (D.pys a) (D.pys b) = D.eqbs a b
  | [], [], _, _ => rfl
  | [], _ :: _, _, _ => rfl
  | _ :: _, [], _, _ => rfl
  | x :: xs, y :: ys, ha, hb => by
    have ha : (D.pl x && D.pls xs) = true := ha
    have hb : (D.pl y && D.pls ys) = true := hb
    rw [Bool.and_eq_true] at ha hb
    show (PyData.eqv (D.py x) (D.py y) && PyData.eqvAll (D.pys xs) (D.pys ys)) = (D.eqb x y && D.eqbs xs ys)
    rw [D.py_eqv x y ha.1 hb.1, D.pys_eqv xs ys ha.2 hb.2]
end
mutual
theorem RepD.dp {K : PySem.W.Frag} {H F : Hp} (l : Le F H) : ∀ {d : D} {v : V}, d.pl = true → RepD K F v d → Dp K H v d.py
  | .non, _, _, .non => .non
  | .bl _, _, _, .bl b => .bl b
  | .int _, _, _, .int i => .int i
  | .str _, _, _, .str x => .str x
  | .tup xs, _, h, .tup hs r => .tup (l.st hs) (RepDs.dps l h r)
  | .lst xs, _, h, .lst hs r => .lst (.inl (l.rd hs)) (RepDs.dps l h r)
theorem RepDs.dps {K : PySem.W.Frag} {H F : Hp} (l : Le F H) : ∀ {d : List D} {v : List V}, D.pls d = true → RepDs K F v d → DpAll K H v (D.pys d)
  | [], _, _, .nil => .nil
  | x :: xs, _, h, .cons a r => by
    have h : (D.pl x && D.pls xs) = true := h
    rw [Bool.and_eq_true] at h
    exact .cons (RepD.dp l h.1 a) (RepDs.dps l h.2 r)
end
theorem View.dp {K : PySem.W.Frag} {H F : Hp} {v : V} {d : D} (l : Le F H) (h : d.pl = true) (w : View K H F v d) : Dp K H v d.py := by
  cases w with
  | fz r => exact r.dp l h
  | lst hh r => exact .lst (.inl (.inl hh)) (r.dps l h)
  | dk _ _ _ => cases h
def eqOk (a b : D) : Bool := a.pl && b.pl && decide (min a.dep b.dep ≤ 190)
def eqD (a b : D) : Option M := if eqOk a b = true then some (.d (.bl (D.eqb a b))) else none
def neD2 : D → D → Option M
  | .lst (_ :: _), .lst [] => some (.d (.bl true))
  | _, _ => none
def neD (a b : D) : Option M := if eqOk a b = true then some (.d (.bl (!D.eqb a b))) else neD2 a b
theorem eqOk_of {a b : D} (h : eqOk a b = true) : a.pl = true ∧ b.pl = true ∧ min a.dep b.dep ≤ 190 := by
  unfold eqOk at h
  rw [Bool.and_eq_true, Bool.and_eq_true] at h
  exact ⟨h.1.1, h.1.2, of_decide_eq_true h.2⟩
def strIn (x y : Str) : Bool := !(Builtin.Str.occurrences y x 0 y.length 1).isEmpty
def inOk (a : D) (xs : List D) : Bool := a.pl && D.pls xs && decide (min a.dep (D.deps xs) ≤ 190)
def inD : D → D → Option M
  | a, .lst xs => if inOk a xs = true then some (.d (.bl (xs.any fun y => D.eqb y a))) else none
  | a, .tup xs => if inOk a xs = true then some (.d (.bl (xs.any fun y => D.eqb y a))) else none
  | .str x, .str y => some (.d (.bl (strIn x y)))
  | _, _ => none
def ninD : D → D → Option M
  | a, .lst xs => if inOk a xs = true then some (.d (.bl (!xs.any fun y => D.eqb y a))) else none
  | a, .tup xs => if inOk a xs = true then some (.d (.bl (!xs.any fun y => D.eqb y a))) else none
  | .str x, .str y => some (.d (.bl (!strIn x y)))
  | _, _ => none
def ltD : D → D → Option M
  | .int i, .int j => some (.d (.bl (decide (i < j))))
  | .str x, .str y => some (.d (.bl (decide (x.cps.toList < y.cps.toList))))
  | _, _ => none
def leD : D → D → Option M
  | .int i, .int j => some (.d (.bl (decide (i ≤ j))))
  | _, _ => none
def gtD : D → D → Option M
  | .int i, .int j => some (.d (.bl (decide (j < i))))
  | _, _ => none
def geD : D → D → Option M
  | .int i, .int j => some (.d (.bl (decide (j ≤ i))))
  | _, _ => none
def D.isNon : D → Bool
  | .non => true
  | _ => false
def isND : D → D → Option M
  | a, .non => some (.d (.bl a.isNon))
  | .bl a, .bl b => some (.d (.bl (decide (a = b))))
  | _, _ => none
def isnND : D → D → Option M
  | a, .non => some (.d (.bl (!a.isNon)))
  | .bl a, .bl b => some (.d (.bl (!decide (a = b))))
  | _, _ => none
section
variable {X : Cx}
theorem od_eq (hu : X.A.units + 192 < cLine) : OpD X (compareOp .Eq) eqD := opD_of (by
  intro pins s σ H x y v u Q I rx ry ⟨F, a, b, m, l, va, vb, e, w⟩
  unfold eqD at e
  split at e
  · rename_i hk
    obtain ⟨h1, h2, h3⟩ := eqOk_of hk
    cases e
    obtain ⟨as, r1⟩ := Dp.reads I _ x v (va.dp l h1) rx
    obtain ⟨bs, r2⟩ := Dp.reads I _ y u (vb.dp l h2) ry
    refine SeqAt.eq_plain r1 r2 (D.py_plain a h1) (D.py_plain b h2) (by rw [D.py_dep a h1, D.py_dep b h2]; omega) ⟨.bl _, H, I, rfl, ?_⟩
    rw [D.py_eqv a b h1 h2]
    exact w.bl
  · cases e)
theorem od_ne (hu : X.A.units + 192 < cLine) : OpD X (compareOp .NotEq) neD := opD_of (by
  intro pins s σ H x y v u Q I rx ry ⟨F, a, b, m, l, va, vb, e, w⟩
  unfold neD at e
  split at e
  · rename_i hk
    obtain ⟨h1, h2, h3⟩ := eqOk_of hk
    cases e
    obtain ⟨as, r1⟩ := Dp.reads I _ x v (va.dp l h1) rx
    obtain ⟨bs, r2⟩ := Dp.reads I _ y u (vb.dp l h2) ry
    refine SeqAt.ne_plain r1 r2 (D.py_plain a h1) (D.py_plain b h2) (by rw [D.py_dep a h1, D.py_dep b h2]; omega) ⟨.bl _, H, I, rfl, ?_⟩
    rw [D.py_eqv a b h1 h2]
    exact w.bl
  · have key : ∃ z zs, a = .lst (z :: zs) ∧ b = .lst [] ∧ m = .d (.bl true) := by
      unfold neD2 at e
      split at e
      · cases e; exact ⟨_, _, rfl, rfl, rfl⟩
      · cases e
    obtain ⟨z, zs, rfl, rfl, rfl⟩ := key
    obtain ⟨a1, vs, rfl, h1, r1⟩ := va.list l
    obtain ⟨b1, us, rfl, h2, r2⟩ := vb.list l
    cases rx
    cases ry
    obtain ⟨_, its, n, q1, hl, g1⟩ := Inv.rdl I h1
    obtain ⟨_, its2, n2, q2, hl2, g2⟩ := Inv.rdl I h2
    have e1 : its.length = zs.length + 1 := by rw [← hl, r1.len]; rfl
    have e2 : its2.length = 0 := by rw [← hl2, r2.len]; rfl
    show wpAny (model X.prog X.w) X.A (richCompare .NotEq (.ref a1) (.ref b1)) _ _ s
    exact PySem.SeqAt.RcNeAt.lists_lengths ⟨_, g1, rfl, n, rfl⟩ ⟨_, g2, rfl, n2, rfl⟩ (by rw [List.size_toArray, List.size_toArray, e1, e2]; simp) (by omega) X.prog X.w _ _ ⟨.bl true, H, I, rfl, w.bl⟩)
theorem pys_any {a : D} (ha : a.pl = true) : ∀ {xs : List D}, D.pls xs = true → ((D.pys xs).any fun y => PyData.eqv y a.py) = xs.any fun y => D.eqb y a
  | [], _ => rfl
  | x :: xs, h => by
    have h : (D.pl x && D.pls xs) = true := h
    rw [Bool.and_eq_true] at h
    show (PyData.eqv x.py a.py || _) = (D.eqb x a || _)
    rw [D.py_eqv x a h.1 ha, pys_any ha h.2]
theorem od_in (hu : X.A.units + 192 < cLine) : OpD X (compareOp .In) inD := opD_of (by
  intro pins s σ H x y v u Q I rx ry ⟨F, a, b, m, l, va, vb, e, w⟩
  have seq : ∀ xs : List D, (b = .lst xs ∨ b = .tup xs) → inOk a xs = true → m = .d (.bl (xs.any fun y => D.eqb y a)) → wpAny (model X.prog X.w) X.A (compareOp .In v u) (EP X pins σ Q) X.xe s := fun xs hb hk em => by
    unfold inOk at hk
    rw [Bool.and_eq_true, Bool.and_eq_true] at hk
    have h3 := of_decide_eq_true hk.2
    have hbp : b.pl = true := by rcases hb with rfl | rfl <;> exact hk.1.2
    obtain ⟨as, r1⟩ := Dp.reads I _ x v (va.dp l hk.1.1) rx
    obtain ⟨bs, r2⟩ := Dp.reads I _ y u (vb.dp l hbp) ry
    have hd : X.A.units + 1 + min (PyData.depthAll (D.pys xs)) a.py.depth < cLine := by rw [D.py_dep a hk.1.1, D.pys_dep xs hk.1.2]; omega
    have fin : EP X pins σ Q (.bool ((D.pys xs).any fun y => PyData.eqv y a.py)) s := ⟨.bl _, H, I, rfl, by rw [pys_any hk.1.1 hk.1.2]; rw [em] at w; exact w.bl⟩
    rcases hb with rfl | rfl
    · exact SeqAt.in_list_data r2 r1 (D.pys_plain xs hk.1.2) (D.py_plain a hk.1.1) hd fin
    · exact SeqAt.in_tuple_data r2 r1 (D.pys_plain xs hk.1.2) (D.py_plain a hk.1.1) hd fin
  cases b with
  | lst xs =>
    have e : (if inOk a xs = true then some (M.d (.bl (xs.any fun y => D.eqb y a))) else none) = some m := by cases a <;> exact e
    split at e
    · rename_i hk; cases e; exact seq xs (.inl rfl) hk rfl
    · cases e
  | tup xs =>
    have e : (if inOk a xs = true then some (M.d (.bl (xs.any fun y => D.eqb y a))) else none) = some m := by cases a <;> exact e
    split at e
    · rename_i hk; cases e; exact seq xs (.inr rfl) hk rfl
    · cases e
  | str z =>
    cases a with
    | str i => obtain rfl := va.str; obtain rfl := vb.str; cases e; exact op_in_str pins s σ H _ _ v u Q I rx ry ⟨i, z, rfl, rfl, w.bl⟩
    | _ => cases e
  | _ => cases a <;> cases e)
theorem od_nin (hu : X.A.units + 192 < cLine) : OpD X (compareOp .NotIn) ninD := opD_of (by
  intro pins s σ H x y v u Q I rx ry ⟨F, a, b, m, l, va, vb, e, w⟩
  have seq : ∀ xs : List D, (b = .lst xs ∨ b = .tup xs) → inOk a xs = true → m = .d (.bl (!xs.any fun y => D.eqb y a)) → wpAny (model X.prog X.w) X.A (compareOp .NotIn v u) (EP X pins σ Q) X.xe s := fun xs hb hk em => by
    unfold inOk at hk
    rw [Bool.and_eq_true, Bool.and_eq_true] at hk
    have h3 := of_decide_eq_true hk.2
    have hbp : b.pl = true := by rcases hb with rfl | rfl <;> exact hk.1.2
    obtain ⟨as, r1⟩ := Dp.reads I _ x v (va.dp l hk.1.1) rx
    obtain ⟨bs, r2⟩ := Dp.reads I _ y u (vb.dp l hbp) ry
    have hd : X.A.units + 1 + min (PyData.depthAll (D.pys xs)) a.py.depth < cLine := by rw [D.py_dep a hk.1.1, D.pys_dep xs hk.1.2]; omega
    have fin : EP X pins σ Q (.bool (!(D.pys xs).any fun y => PyData.eqv y a.py)) s := ⟨.bl _, H, I, rfl, by rw [pys_any hk.1.1 hk.1.2]; rw [em] at w; exact w.bl⟩
    rcases hb with rfl | rfl
    · exact SeqAt.notIn_list_data r2 r1 (D.pys_plain xs hk.1.2) (D.py_plain a hk.1.1) hd fin
    · exact SeqAt.notIn_tuple_data r2 r1 (D.pys_plain xs hk.1.2) (D.py_plain a hk.1.1) hd fin
  cases b with
  | lst xs =>
    have e : (if inOk a xs = true then some (M.d (.bl (!xs.any fun y => D.eqb y a))) else none) = some m := by cases a <;> exact e
    split at e
    · rename_i hk; cases e; exact seq xs (.inl rfl) hk rfl
    · cases e
  | tup xs =>
    have e : (if inOk a xs = true then some (M.d (.bl (!xs.any fun y => D.eqb y a))) else none) = some m := by cases a <;> exact e
    split at e
    · rename_i hk; cases e; exact seq xs (.inr rfl) hk rfl
    · cases e
  | str z =>
    cases a with
    | str i => obtain rfl := va.str; obtain rfl := vb.str; cases e; exact op_notin_str pins s σ H _ _ v u Q I rx ry ⟨i, z, rfl, rfl, w.bl⟩
    | _ => cases e
  | _ => cases a <;> cases e)
theorem od_lt : OpD X (compareOp .Lt) ltD := opD_of (by
  intro pins s σ H x y v u Q I rx ry ⟨F, a, b, m, l, va, vb, e, w⟩
  cases a with
  | int i =>
    cases b with
    | int j => obtain rfl := va.int; obtain rfl := vb.int; cases e; exact op_lt pins s σ H _ _ v u Q I rx ry ⟨i, j, rfl, rfl, w.bl⟩
    | _ => cases e
  | str i =>
    cases b with
    | str j => obtain rfl := va.str; obtain rfl := vb.str; cases e; exact op_lt_str pins s σ H _ _ v u Q I rx ry ⟨i, j, rfl, rfl, w.bl⟩
    | _ => cases e
  | _ => cases e)
theorem od_le : OpD X (compareOp .LtE) leD := opD_of (by
  intro pins s σ H x y v u Q I rx ry ⟨F, a, b, m, l, va, vb, e, w⟩
  cases a with
  | int i =>
    cases b with
    | int j => obtain rfl := va.int; obtain rfl := vb.int; cases e; exact op_le pins s σ H _ _ v u Q I rx ry ⟨i, j, rfl, rfl, w.bl⟩
    | _ => cases e
  | _ => cases e)
theorem od_gt : OpD X (compareOp .Gt) gtD := opD_of (by
  intro pins s σ H x y v u Q I rx ry ⟨F, a, b, m, l, va, vb, e, w⟩
  cases a with
  | int i =>
    cases b with
    | int j => obtain rfl := va.int; obtain rfl := vb.int; cases e; exact op_gt pins s σ H _ _ v u Q I rx ry ⟨i, j, rfl, rfl, w.bl⟩
    | _ => cases e
  | _ => cases e)
theorem od_ge : OpD X (compareOp .GtE) geD := opD_of (by
  intro pins s σ H x y v u Q I rx ry ⟨F, a, b, m, l, va, vb, e, w⟩
  cases a with
  | int i =>
    cases b with
    | int j => obtain rfl := va.int; obtain rfl := vb.int; cases e; exact op_ge pins s σ H _ _ v u Q I rx ry ⟨i, j, rfl, rfl, w.bl⟩
    | _ => cases e
  | _ => cases e)
theorem View.isNon {K : PySem.W.Frag} {H F : Hp} {v : V} {d : D} (h : View K H F v d) : decide (v = .non) = d.isNon := by
  cases h with
  | fz h => cases h <;> simp [D.isNon]
  | lst _ _ => simp [D.isNon]
  | dk _ _ _ => simp [D.isNon]
theorem od_isN : OpD X (compareOp .Is) isND := opD_of (by
  intro pins s σ H x y v u Q I rx ry ⟨F, a, b, m, l, va, vb, e, w⟩
  cases b with
  | non =>
    have e : some (M.d (.bl a.isNon)) = some m := by cases a <;> exact e
    obtain rfl := vb.non
    cases e
    exact op_isN pins s σ H _ _ v u Q I rx ry ⟨rfl, by rw [va.isNon]; exact w.bl⟩
  | bl y =>
    cases a with
    | bl x =>
      cases e
      obtain rfl := va.bl
      obtain rfl := vb.bl
      exact op_isBl pins s σ H _ _ v u Q I rx ry ⟨x, y, rfl, rfl, w.bl⟩
    | _ => cases e
  | _ => cases a <;> cases e)
theorem od_isnN : OpD X (compareOp .IsNot) isnND := opD_of (by
  intro pins s σ H x y v u Q I rx ry ⟨F, a, b, m, l, va, vb, e, w⟩
  cases b with
  | non =>
    have e : some (M.d (.bl (!a.isNon))) = some m := by cases a <;> exact e
    obtain rfl := vb.non
    cases e
    exact op_notN pins s σ H _ _ v u Q I rx ry ⟨rfl, by rw [va.isNon]; exact w.bl⟩
  | bl y =>
    cases a with
    | bl x =>
      cases e
      obtain rfl := va.bl
      obtain rfl := vb.bl
      exact op_notBl pins s σ H _ _ v u Q I rx ry ⟨x, y, rfl, rfl, w.bl⟩
    | _ => cases e
  | _ => cases a <;> cases e)
/-- a op1 b op2 c -/
def mChain (g g' : D → D → Option M) (fa fb fc : FE) : FM := fun S => (fa S).bind fun a S => (fb S).bind fun b S => (onD g a b S).bind fun m S => (asB m S).bind fun k S =>
  if k = true then (fc S).bind fun c S => onD g' b c S else .ok (.d (.bl false)) S
theorem chain_rd {K : PySem.W.Frag} {g g' : D → D → Option M} {fa fb fc : FE} {r r' : R2} (hr : ∀ (H F : Hp) (v u : V) (x y : D) (m : M) (Q : VK), Le F H → View K H F v x → View K H F u y → g x y = some m → Wish K H F m Q → r v u H Q)
    (hr' : ∀ (H F : Hp) (v u : V) (x y : D) (m : M) (Q : VK), Le F H → View K H F v x → View K H F u y → g' x y = some m → Wish K H F m Q → r' v u H Q)
    {σ : St} {H : Hp} {Q : VK} (h : rdM K (mChain g g' fa fb fc) σ H Q) : tChain r r' (rdE K fa) (rdE K fb) (rdE K fc) σ H Q := by
  obtain ⟨F, O, S, m, S', rp, hf, k⟩ := h
  obtain ⟨a, S1, h1, h2⟩ := R.bind_ok hf
  obtain ⟨b, S2, h3, h4⟩ := R.bind_ok h2
  obtain ⟨m1, S3, h5, h6⟩ := R.bind_ok h4
  obtain ⟨b1, S4, h7, h8⟩ := R.bind_ok h6
  obtain ⟨e5, x, y, ex, ey, eg⟩ := onD_ok h5
  obtain ⟨e7, e8⟩ := asB_ok h7
  subst e5 e7 e8
  refine ⟨F, O, S, a, S1, rp, h1, fun v H1 F1 O1 st1 r1 ra => ⟨F1, O1, S1, b, S4, r1, h3, fun u H2 F2 O2 st2 r2 rb => ?_⟩⟩
  refine hr H2 F2 v u x y _ _ r2.bs.fh (r2.view (ra.mono st2.ff) ex) (r2.view rb ey) eg (wish_bl ⟨b1, rfl, ?_⟩)
  cases b1 with
  | false =>
    cases h8
    show (if false = true then _ else _)
    rw [if_neg (by decide)]
    exact k _ H2 F2 O2 (st1.trans st2) r2 (.bl false)
  | true =>
    rw [if_pos rfl] at h8 ⊢
    obtain ⟨c, S5, h9, h10⟩ := R.bind_ok h8
    obtain ⟨e9, y', z, ey', ez, eg'⟩ := onD_ok h10
    subst e9
    refine ⟨F2, O2, S4, c, S', r2, h9, fun w H3 F3 O3 st3 r3 rc => ?_⟩
    exact hr' H3 F3 u w y' z m Q r3.bs.fh (r3.view (rb.mono st3.ff) ey') (r3.view rc ez) eg' (r3.wish fun w' H4 F4 O4 st4 r4 rm => k w' H4 F4 O4 (((st1.trans st2).trans st3).trans st4) r4 rm)
theorem dm_chain {op op' : CmpOp} {g g' : D → D → Option M} {fa fb fc : FE} {a b c : Expr} {pos : Pos} (ho : OpD X (compareOp op) g) (ho' : OpD X (compareOp op') g') (ha : DE X fa a) (hb : DE X fb b) (hc : DE X fc c)
    (hm : lastMarks [op, op'] [b, c] = false := by with_unfolding_all rfl) : DM X (mChain g g' fa fb fc) (.Compare a [op, op'] [b, c] pos) := by
  obtain ⟨r, hr, hs⟩ := ho
  obtain ⟨r', hr', hs'⟩ := ho'
  exact PE.imp (pe_chain hr hr' ha hb hc hm) fun σ H Q h => chain_rd hs hs' h
theorem dt_chain {op op' : CmpOp} {g g' : D → D → Option M} {fa fb fc : FE} {a b c : Expr} {pos : Pos} (ho : OpD X (compareOp op) g) (ho' : OpD X (compareOp op') g') (ha : DE X fa a) (hb : DE X fb b) (hc : DE X fc c)
    (hm : lastMarks [op, op'] [b, c] = false := by with_unfolding_all rfl) : DT X (tM (mChain g g' fa fb fc)) (.Compare a [op, op'] [b, c] pos) := by
  obtain ⟨r, hr, hs⟩ := ho
  obtain ⟨r', hr', hs'⟩ := ho'
  refine PT.imp (pt_chain hr hr' ha hb hc hm) fun σ H Q h => ?_
  obtain ⟨F, O, S, c, S', rp, hf, k⟩ := h
  obtain ⟨m, S1, h1, h2⟩ := R.bind_ok hf
  obtain ⟨em, eS⟩ := asB_ok h2
  subst em eS
  refine chain_rd (g := g) (g' := g') hs hs' ⟨F, O, S, _, S', rp, h1, fun v H' F' O' st r' rm => ⟨c, ?_, k H' F' O' st r'⟩⟩
  cases (show RepD X.K F' v (.bl c) from rm)
  rfl
end

/-! ### x[i] -/
def ixD : D → D → Option M
  | .lst xs, .int i => (atI xs i).map .d
  | .tup xs, .int i => (atI xs i).map .d
  | .str z, .int i => if z.length ≤ line then (atI z.cps.toList i).map fun c => .d (.str ⟨#[c]⟩) else none
  | _, _ => none
theorem RepDs.ati {K : PySem.W.Frag} {F : Hp} {v : List V} {d : List D} {i : Int} {x : D} (h : RepDs K F v d) (e : atI d i = some x) : ∃ u, atI v i = some u ∧ RepD K F u x := by
  unfold atI at e ⊢
  rw [h.len]
  cases hj : ixN d.length i with
  | none => rw [hj] at e; cases e
  | some j =>
    rw [hj] at e
    exact h.get e
section
variable {X : Cx} {e a b : Expr} {pos : Pos}
theorem ix_all : IxR X (semR X.K ixD) := by
  intro value slice pins s σ H x y v u Q I rx ry ⟨F, a, b, m, l, va, vb, e, w⟩ hs
  cases b with
  | int i =>
    obtain rfl := vb.int
    cases a with
    | lst xs =>
      obtain ⟨p, vs, rfl, h1, r1⟩ := va.list l
      have e : (atI xs i).map M.d = some m := e
      cases ea : atI xs i with
      | none => rw [ea] at e; cases e
      | some d =>
        rw [ea] at e
        cases e
        obtain ⟨z, hz, rz⟩ := r1.ati ea
        exact ix_list value slice pins s σ H _ _ v u Q I rx ry ⟨p, vs, i, z, rfl, rfl, .inl h1, hz, w.d _ _ rfl rz⟩ hs
    | tup xs =>
      obtain ⟨p, vs, rfl, h1, r1⟩ := va.tuple l
      have e : (atI xs i).map M.d = some m := e
      cases ea : atI xs i with
      | none => rw [ea] at e; cases e
      | some d =>
        rw [ea] at e
        cases e
        obtain ⟨z, hz, rz⟩ := r1.ati ea
        exact ix_tup value slice pins s σ H _ _ v u Q I rx ry ⟨p, vs, i, z, rfl, rfl, h1, hz, w.d _ _ rfl rz⟩ hs
    | str z =>
      obtain rfl := va.str
      have e : (if z.length ≤ line then (atI z.cps.toList i).map fun c => M.d (.str ⟨#[c]⟩) else none) = some m := e
      split at e
      · rename_i hl
        cases ea : atI z.cps.toList i with
        | none => rw [ea] at e; cases e
        | some c =>
          rw [ea] at e
          cases e
          exact ix_str value slice pins s σ H _ _ v u Q I rx ry ⟨z, i, c, rfl, rfl, by rw [← line_eq]; exact hl, ea, w.str⟩ hs
      · cases e
    | _ => cases e
  | _ => cases a <;> cases e
theorem dm_ix {fa fb : FE} (ha : DE X fa a) (hb : DE X fb b) (hs : PlainIx b := by exact fun _ _ => rfl) : DM X (mBin ixD fa fb) (.Subscript a b pos) :=
  PE.imp (pe_ix ix_all ha hb hs) fun σ H Q h => bin_rd (fun H F v u x y m Q l vx vy e w => ⟨F, x, y, m, l, vx, vy, e, w⟩) h

/-! ### slices -/
abbrev FP := SS → R (Option Int)
def rdP (K : PySem.W.Frag) (f : FP) : TO := fun σ H Q => ∃ F O S o S', Rp K H F O σ S ∧ f S = .ok o S' ∧ ∀ H' F' O', Stp H F O H' F' O' → Rp K H' F' O' σ S' → Q o H'
abbrev DP (X : Cx) (f : FP) (e : Option Expr) : Prop := PO X e (rdP X.K f)
theorem PO.imp {X : Cx} {e : Option Expr} {t t' : TO} (h : PO X e t) (hm : ∀ σ H Q, t' σ H Q → t σ H Q) : PO X e t' := ⟨fun pins s σ H Q I q => h.run pins s σ H Q I (hm σ H Q q)⟩
def pNo : FP := fun S => .ok none S
def pIx (f : FE) : FP := fun S => (f S).bind fun o S => match o.get S with
  | some (.int i) => .ok (some i) S
  | _ => .no
theorem dp_no : DP X pNo none := PO.imp po_none fun σ H Q ⟨F, O, S, o, S', r, h, k⟩ => by
  cases h
  exact k H F O (Stp.refl _ _ _) r
theorem dp_ix {f : FE} (h : DE X f e) : DP X (pIx f) (some e) := PO.imp (po_some h) fun σ H Q ⟨F, O, S, o, S', r, hf, k⟩ => by
  obtain ⟨o1, S1, h1, h2⟩ := R.bind_ok hf
  refine ⟨F, O, S, o1, S1, r, h1, fun v H1 F1 O1 st1 r1 ro => ?_⟩
  cases eg : o1.get S1 with
  | none => rw [eg] at h2; cases h2
  | some d =>
    rw [eg] at h2
    cases d with
    | int i =>
      cases h2
      obtain rfl := (r1.view ro eg).int
      exact ⟨i, rfl, k H1 F1 O1 st1 r1⟩
    | _ => cases h2
def cutD (xs : List D) (lo hi : Option Int) : List D := (xs.drop (HT.sIx xs.length 0 lo)).take (HT.sIx xs.length xs.length hi - HT.sIx xs.length 0 lo)
theorem RepDs.cut {K : PySem.W.Frag} {F : Hp} {v : List V} {d : List D} (h : RepDs K F v d) (lo hi : Option Int) : RepDs K F (cutV v lo hi) (cutD d lo hi) := by
  unfold cutV cutD
  rw [h.len]
  exact (h.drop _).take _
def sliceD (lo hi : Option Int) : D → Option M
  | .lst xs => some (.lst (cutD xs lo hi))
  | .scr xs => some (.lst (cutD xs lo hi))
  | .tup xs => some (.d (.tup (cutD xs lo hi)))
  | .str z => if z.length ≤ line then some (.d (.str (cutS z lo hi))) else none
  | _ => none
def semSl (K : PySem.W.Frag) : V → Option Int → Option Int → Hp → VK → Prop := fun v lo hi H Q => ∃ F x m, Le F H ∧ View K H F v x ∧ sliceD lo hi x = some m ∧ Wish K H F m Q
theorem cutD_whole {xs : List D} {lo hi : Option Int} (h : HT.sIx xs.length 0 lo = 0 ∧ HT.sIx xs.length xs.length hi = xs.length) : cutD xs lo hi = xs := by
  unfold cutD
  rw [h.1, h.2]
  simp
theorem sl_all : SlR X (semSl X.K) := by
  intro pins s σ H x v vl vu lo hi sl Q I rx hs pl pu ⟨F, d, m, l, vd, e, w⟩
  cases d with
  | lst xs =>
    obtain ⟨p, vs, rfl, h1, r1⟩ := vd.list l
    cases e
    exact sl_list pins s σ H _ v vl vu lo hi sl Q I rx hs pl pu ⟨p, vs, rfl, .inl h1, fun q hq => w.l _ q _ rfl hq (r1.cut lo hi)⟩
  | scr xs =>
    obtain ⟨p, vs, rfl, h1, r1⟩ := vd.scr l
    cases e
    exact sl_list pins s σ H _ v vl vu lo hi sl Q I rx hs pl pu ⟨p, vs, rfl, h1, fun q hq => w.l _ q _ rfl hq (r1.cut lo hi)⟩
  | tup xs =>
    obtain ⟨p, vs, ev, h1, r1⟩ := vd.tuple l
    subst ev
    cases e
    refine sl_tupA pins s σ H _ v vl vu lo hi sl Q I rx hs pl pu ⟨p, vs, rfl, h1, fun hw => ?_, fun _ q hq => w.t _ q _ rfl hq (r1.cut lo hi)⟩
    rw [r1.len] at hw
    cases vd with
    | fz h => exact w.d _ _ rfl (by rw [cutD_whole hw]; exact h)
  | str z =>
    obtain rfl := vd.str
    have e : (if z.length ≤ line then some (M.d (.str (cutS z lo hi))) else none) = some m := e
    split at e
    · rename_i hl
      cases e
      exact sl_str pins s σ H _ v vl vu lo hi sl Q I rx hs pl pu ⟨z, rfl, by rw [← line_eq]; exact hl, w.str⟩
    · cases e
  | _ => cases e
def mSl (f : FE) (l h : FP) : FM := fun S => (f S).bind fun o S => (l S).bind fun lo S => (h S).bind fun hi S => match o.get S with
  | some x => (match sliceD lo hi x with
    | some m => .ok m S
    | none => .no)
  | none => .no
theorem dm_sl {f : FE} {l h : FP} {lo hi : Option Expr} {p2 : Pos} (he : DE X f e) (hl : DP X l lo) (hh : DP X h hi) : DM X (mSl f l h) (.Subscript e (.Slice lo hi none p2) pos) :=
  PE.imp (pe_slice sl_all he hl hh) fun σ H Q ⟨F, O, S, m, S', r, hf, k⟩ => by
    obtain ⟨o, S1, h1, h2⟩ := R.bind_ok hf
    obtain ⟨lo', S2, h3, h4⟩ := R.bind_ok h2
    obtain ⟨hi', S3, h5, h6⟩ := R.bind_ok h4
    refine ⟨F, O, S, o, S1, r, h1, fun v H1 F1 O1 st1 r1 ro => ⟨F1, O1, S1, lo', S2, r1, h3, fun H2 F2 O2 st2 r2 => ⟨F2, O2, S2, hi', S3, r2, h5, fun H3 F3 O3 st3 r3 => ?_⟩⟩⟩
    cases eg : o.get S3 with
    | none => rw [eg] at h6; cases h6
    | some x =>
      rw [eg] at h6
      dsimp only at h6
      cases es : sliceD lo' hi' x with
      | none => rw [es] at h6; cases h6
      | some m' =>
        rw [es] at h6
        cases h6
        exact ⟨F3, x, m, r3.bs.fh, r3.view (ro.mono (st2.trans st3).ff) eg, es, r3.wish fun w H4 F4 O4 st4 r4 rm => k w H4 F4 O4 (((st1.trans st2).trans st3).trans st4) r4 rm⟩

section
variable {prog : Program} {w : World} {A : Around} {E : Value → Shared → Prop} {s : Shared}
theorem sliceApplied_rev {sl : Addr} {vs : Value} {n : Nat} {Q : Int × Int × Nat → Shared → Prop} (hs : s.heap.IsSliceOf sl .none .none vs) (ps : IsPart vs (some (-1)))
    (h : Q ((n : Int) - 1, -1, n) s) : wpAny (model prog w) A (Builtin.Slice.sliceApplied (.ref sl) (pure (n : Int))) Q E s := by
  obtain ⟨os, hos, hcs, hds⟩ := id hs
  unfold Builtin.Slice.sliceApplied Builtin.Slice.sliceFields
  refine wpAny_bind (wpAny_bind (wpAny_field hos hds (x := .none) rfl (wpAny_bind (wpAny_field hos hds (x := .none) rfl (wpAny_bind (wpAny_field hos hds (x := vs) rfl (wpAny_pure ?_)))))))
  refine wpAny_bind (HT.slicePart_ ps ?_)
  show wpAny _ _ (if ((-1 : Int) == 0) = true then _ else _) _ _ s
  rw [if_neg (by decide)]
  refine wpAny_bind (slicePart_none (wpAny_bind (slicePart_none (wpAny_bind (wpAny_pure ?_)))))
  show wpAny _ _ (match Builtin.Slice.sliceAdjust none none (-1) (n : Int) with | (lo, hi) => pure (lo, (-1 : Int), Builtin.Slice.slicePlaces lo hi (-1))) _ _ s
  have e : Builtin.Slice.sliceAdjust none none (-1) (n : Int) = ((n : Int) - 1, -1) := rfl
  rw [e]
  show wpAny _ _ (pure ((n : Int) - 1, (-1 : Int), Builtin.Slice.slicePlaces ((n : Int) - 1) (-1) (-1))) _ _ s
  have e2 : Builtin.Slice.slicePlaces ((n : Int) - 1) (-1) (-1) = n := by
    unfold Builtin.Slice.slicePlaces
    rw [if_neg (by decide)]
    split
    · rw [show (- -1 : Int) = 1 by decide, Int.ediv_one]; omega
    · omega
  rw [e2]
  exact wpAny_pure h
theorem pick_rev (xs : Array Value) : ((List.range xs.size).filterMap fun (k : Nat) => xs[((xs.size : Int) - 1 + (k : Int) * (-1)).toNat]?).toArray = xs.toList.reverse.toArray := by
  have e : ((List.range xs.size).filterMap fun (k : Nat) => xs[((xs.size : Int) - 1 + (k : Int) * (-1)).toNat]?) = ((List.range xs.size).map fun k => xs.size - 1 - k).filterMap (xs[·]?) := by
    rw [List.filterMap_map]
    have key : ∀ (l : List Nat), (∀ k ∈ l, k < xs.size) → l.filterMap (fun (k : Nat) => xs[((xs.size : Int) - 1 + (k : Int) * (-1)).toNat]?) = l.filterMap ((xs[·]?) ∘ fun k => xs.size - 1 - k) := by
      intro l
      induction l with
      | nil => intro _; rfl
      | cons a l ih =>
        intro h
        have ha := h a (List.mem_cons_self ..)
        have e3 : ((xs.size : Int) - 1 + (a : Int) * (-1)).toNat = xs.size - 1 - a := by omega
        have e4 : (fun (k : Nat) => xs[((xs.size : Int) - 1 + (k : Int) * (-1)).toNat]?) a = ((xs[·]?) ∘ fun k => xs.size - 1 - k) a := by
          show xs[((xs.size : Int) - 1 + (a : Int) * (-1)).toNat]? = xs[xs.size - 1 - a]?
          rw [e3]
        rw [List.filterMap_cons, List.filterMap_cons, ← e4, ih fun k hk => h k (List.mem_cons_of_mem _ hk)]
    exact key _ fun k hk => List.mem_range.mp hk
  rw [e, PySem.W.krv_range, List.filterMap_reverse, PySem.W.krv_all]
theorem getItem_tuple_rev {t sl : Addr} {items : Array Value} {vs : Value} {Q : Value → Shared → Prop} (ht : IsTup s.heap t items) (hs : s.heap.IsSliceOf sl .none .none vs) (ps : IsPart vs (some (-1)))
    (h : Q (.ref s.heap.objs.size) { s with heap := s.heap.push { cls := .type "tuple", data := .seq items.toList.reverse.toArray } })
    (hsz : items.size ≤ sizeLine) : wpAny (model prog w) A (getItem (.ref t) (.ref sl)) Q E s := by
  have htake : sizeOk (.seq items.toList.reverse.toArray) := by
    show items.toList.reverse.toArray.size ≤ sizeLine
    rw [List.size_toArray, List.length_reverse, Array.length_toList]
    exact hsz
  obtain ⟨os, hos, hcs, hds⟩ := id hs
  have hTs : s.TypeIs (.ref sl) "slice" := ⟨os, hos, hcs⟩
  unfold getItem
  try with_reducible refine wpAny_holding ?_
  first | refine wpAny_bind (wpAny_pure ?_) | skip
  refine wpAny_bind (wpAny_sequenceKey ht.typeIs (by decide) ?_)
  refine wpAny_bind (wpAny_callSpecial?_slot (name := Str.ofString "__getitem__") ht.typeIs PyProof.Rows.slot_tuple_getitem
    (wpAny_call_entry PyProof.Rows.slot_tuple_getitem ht.typeIs entry_tuple_getitem ?_ (args_tuple_getitem _ _)))
  show wpAny _ _ (Builtin.Tuple.tupleItemsOf (.ref t) >>= _) _ _ s
  refine wpAny_bind (tupleItemsOf_ ht ?_)
  refine wpAny_bind (wpAny_typeOf hTs ?_)
  rw [if_pos (by decide)]
  refine wpAny_bind (sliceApplied_rev hs ps ?_)
  have hno : ¬ (((items.size : Int) - 1 == 0 && (-1 : Int) == 1 && items.size == items.size) = true) := by
    intro q
    rw [Bool.and_eq_true, Bool.and_eq_true] at q
    exact absurd q.1.2 (by decide)
  show wpAny _ _ (if ((items.size : Int) - 1 == 0 && (-1 : Int) == 1 && items.size == items.size) = true then _ else _) _ _ s
  rw [if_neg hno, pick_rev]
  first
    | exact wpAny_bind (m := Builtin.Tuple.tupleExact _) (wpAny_newObj_type (wpAny_pure ⟨_, rfl, wpAny_pure h⟩) htake)
    | exact wpAny_bind (m := Builtin.Tuple.tupleExact _) (wpAny_newObj_type (wpAny_bind (wpAny_pure (wpAny_pure ⟨_, rfl, wpAny_pure h⟩))) htake)
    | exact wpAny_bind (wpAny_bind (m := Builtin.Tuple.tupleExact _) (wpAny_newObj_type (wpAny_pure (wpAny_pure ⟨_, rfl, wpAny_pure h⟩)) htake))
    | exact wpAny_bind (wpAny_bind (m := Builtin.Tuple.tupleExact _) (wpAny_newObj_type (wpAny_pure ⟨_, rfl, wpAny_pure h⟩) htake))
end
def tRevA (K : PySem.W.Frag) (te : TE) : TE := fun σ H Q => te σ H fun x H1 => ∃ a xs, x = .ref a ∧ ((SqL K H1 a xs ∧ ∀ p, H1 p = none → Q (.ref p) (upd H1 p (.lst xs.reverse))) ∨ (SqT K H1 a xs ∧ ∀ p, H1 p = none → Q (.ref p) (upd H1 p (.tup xs.reverse))))
theorem pe_revA {te : TE} {k : Nat} {p1 p2 p3 : Pos} (he : PE X e te) : PE X (.Subscript e (.Slice none none (some (.UnaryOp .USub (.Constant (.int 1) k p1) p2)) p3) pos) (tRevA X.K te) := by
  refine ⟨fun pins s σ H Q I h => ?_⟩
  refine Subscript_ (thn (he.run pins s σ H _ I h) fun v s1 ⟨x, H1, I1, r1, q1⟩ => ?_)
  obtain ⟨a, xs, ex, q⟩ := q1
  subst ex
  cases r1
  have hst : PO X (some (.UnaryOp .USub (.Constant (.int 1) k p1) p2)) (tPart (tUn (rU fun i => .int (-i)) (tC (.int 1)))) := po_some (pe_un un_neg pe_int)
  refine wpAny_Slice (thn (po_none.run pins s1 σ H1 (fun o H2 => o = none ∧ H2 = H1) I1 ⟨rfl, rfl⟩) fun vl s2 ⟨l, H2, I2, pl, el, e2⟩ => ?_)
  subst el e2
  refine thn (po_none.run pins s2 σ H2 (fun o H3 => o = none ∧ H3 = H2) I2 ⟨rfl, rfl⟩) fun vu s3 ⟨u, H3, I3, pu, eu, e3⟩ => ?_
  subst eu e3
  refine thn (hst.run pins s3 σ H3 (fun o H4 => o = some (-1) ∧ H4 = H3) I3 ⟨1, rfl, -1, rfl, rfl, rfl⟩) fun vs s4 ⟨o, H4, I4, ps, eo, e4⟩ => ?_
  subst eo e4
  have I5 : Inv X pins σ H4 { s4 with heap := s4.heap.push { cls := .type "slice", data := .fields #[vl, vu, vs] } } := I4.kept (t' := s4.toks) fun b ob q => Heap.get?_push_of_some _ q
  show wpAny (model X.prog X.w) X.A (subscriptTail e (.Slice none none (some (.UnaryOp .USub (.Constant (.int 1) k p1) p2)) p3) (.ref a) (.ref s4.heap.objs.size)) (EP X pins σ Q) X.xe { s4 with heap := s4.heap.push { cls := .type "slice", data := .fields #[vl, vu, vs] } }
  rcases q with ⟨hx, q⟩ | ⟨hx, q⟩
  · obtain ⟨its, r, ht, hz⟩ := I5.list hx
    have hlen := r.length
    refine tail_any (ops := [.ref a, .ref s4.heap.objs.size]) ht.isList.typeIs (PySem.slot_list_getitem.lookup) ?_ (by with_unfolding_all rfl)
    refine wpAny_getItem_list_slice ht.isList (Heap.IsSliceOf.new _ vl vu vs) pl pu ps (by decide) ?_ (by rw [List.size_toArray]; omega)
    rw [PySem.W.krv_pick]
    refine ⟨.ref _, _, I5.laid (t' := s4.toks) (o := .lst xs.reverse) (fun b ob q => Heap.get?_push_of_some _ q) (Nat.le_refl _) ?_, rfl, q _ (I5.hok.fresh (Nat.le_refl _))⟩
    exact ⟨by rw [List.length_reverse]; exact hz, _, 0, r.reverse, Heap.get?_push_size _ rfl⟩
  · obtain ⟨its, r, ht, hz⟩ := I5.tuple hx
    have hlen := r.length
    refine tail_any (ops := [.ref a, .ref s4.heap.objs.size]) ht.typeIs (PyProof.Rows.slot_tuple_getitem.lookup) ?_ (by with_unfolding_all rfl)
    cases pl
    cases pu
    refine getItem_tuple_rev ht (Heap.IsSliceOf.new _ .none .none vs) ps ?_ (by rw [List.size_toArray]; omega)
    refine ⟨.ref _, _, I5.laid (t' := s4.toks) (o := .tup xs.reverse) (fun b ob q => Heap.get?_push_of_some _ q) (Nat.le_refl _) ?_, rfl, q _ (I5.hok.fresh (Nat.le_refl _))⟩
    exact ⟨by rw [List.length_reverse]; exact hz, _, r.reverse, IsTup.new _ _⟩
def mRev (f : FE) : FM := fun S => (f S).bind fun o S => match o.get S with
  | some (.lst xs) => .ok (.lst xs.reverse) S
  | some (.tup xs) => .ok (.d (.tup xs.reverse)) S
  | _ => .no
theorem dm_rev {f : FE} {k : Nat} {p1 p2 p3 : Pos} (he : DE X f e) : DM X (mRev f) (.Subscript e (.Slice none none (some (.UnaryOp .USub (.Constant (.int 1) k p1) p2)) p3) pos) :=
  PE.imp (pe_revA he) fun σ H Q ⟨F, O, S, m, S', r, hf, k⟩ => by
    obtain ⟨o, S1, h1, h2⟩ := R.bind_ok hf
    refine ⟨F, O, S, o, S1, r, h1, fun v H1 F1 O1 st1 r1 ro => ?_⟩
    cases eg : o.get S1 with
    | none => rw [eg] at h2; cases h2
    | some d =>
      rw [eg] at h2
      cases d with
      | lst xs =>
        cases h2
        obtain ⟨p, vs, rfl, h3, r3⟩ := (r1.view ro eg).list r1.bs.fh
        exact ⟨p, vs, rfl, .inl ⟨.inl h3, fun q hq => (r1.wish fun w H4 F4 O4 st4 r4 rm => k w H4 F4 O4 (st1.trans st4) r4 rm).l _ q _ rfl hq r3.reverse⟩⟩
      | tup xs =>
        cases h2
        obtain ⟨p, vs, rfl, h3, r3⟩ := (r1.view ro eg).tuple r1.bs.fh
        exact ⟨p, vs, rfl, .inr ⟨h3, fun q hq => (r1.wish fun w H4 F4 O4 st4 r4 rm => k w H4 F4 O4 (st1.trans st4) r4 rm).t _ q _ rfl hq r3.reverse⟩⟩
      | _ => cases h2

/-! ### a list of a slot is changed -/
theorem Rp.mut {K : PySem.W.Frag} {H F : Hp} {O : OW} {σ : St} {S : SS} {j : Nat} {ds : List D} (r : Rp K H F O σ S) (e : S.at j = some (.lst ds)) :
    ∃ a vs, σ[j]? = some (some (.ref a)) ∧ H a = some (.lst vs) ∧ RepDs K F vs ds ∧ ∀ vs' ds', RepDs K F vs' ds' → Stp H F O (upd H a (.lst vs')) F O ∧ Rp K (upd H a (.lst vs')) F O σ (S.set j (some (.lst ds'))) := by
  obtain ⟨v, hv, a, vs, rfl, ho, hh, rd⟩ := r.sl j _ e
  have hF := (r.bs.fo a _ ho).1
  refine ⟨a, vs, hv, hh, rd, fun vs' ds' rd' => ⟨⟨Le.refl _, fun b u hb eb => ?_, fun b q hb => .inl ⟨q, hb⟩, fun b u hb => .inl hb, al_upd⟩, ⟨⟨fun b u hb => ?_, fun b q hb => ?_⟩, by rw [List.length_set]; exact r.len, fun i m hm => ?_⟩⟩⟩
  · rw [upd_ne (fun z => by subst z; rw [ho] at eb; cases eb)]; exact hb
  · rw [upd_ne (ne_of_none hb hF)]; exact r.bs.fh b u hb
  · obtain ⟨h1, h2⟩ := r.bs.fo b q hb
    obtain ⟨u, hu⟩ := h2
    exact ⟨h1, al_upd b u hu⟩
  · rcases SS.at_set hm with ⟨e1, e2⟩ | ⟨ne, hm⟩
    · subst e1
      cases e2
      exact ⟨_, hv, a, vs', rfl, ho, upd_same, rd'⟩
    · obtain ⟨w, hw, rw'⟩ := r.sl i m hm
      refine ⟨w, hw, rw'.stay (Le.refl _) fun b u e1 e2 => ⟨?_, e1⟩⟩
      rw [upd_ne (fun z => by subst z; rw [ho] at e1; cases e1; exact ne rfl)]
      exact e2
def isL : Option M → Bool
  | some (.lst _) => true
  | some (.d (.lst _)) => true
  | _ => false
theorem Rp.isL {K : PySem.W.Frag} {H F : Hp} {O : OW} {σ : St} {S : SS} {j : Nat} {v : V} (r : Rp K H F O σ S) (h : Ev.isL (S.at j) = true) (hv : σ[j]? = some (some v)) : tyV K "list" v H := by
  cases em : S.at j with
  | none => rw [em] at h; cases h
  | some m =>
    rw [em] at h
    obtain ⟨w, hw, rm⟩ := r.sl j m em
    rw [hv] at hw
    cases hw
    cases m with
    | lst xs =>
      obtain ⟨a, vs, rfl, _, hh, _⟩ := rm
      exact .inl ⟨rfl, vs, .inl (.inl hh)⟩
    | d x =>
      cases x with
      | lst xs =>
        cases (show RepD K F v (.lst xs) from rm) with
        | lst hs _ => exact .inl ⟨rfl, _, .inl (r.bs.fh.rd hs)⟩
      | _ => cases h
    | dk _ => cases h
def isLq (j : Nat) : SS → R Unit := fun S => if isL (S.at j) = true then .ok () S else .no
/-- x.append(e) -/
def mApp (j : Nat) (f : FE) : FM := fun S => (isLq j S).bind fun _ S => (f S).bind fun o S => match force o S with
  | some (x, S1) => (match S1.at j with
    | some (.lst xs) => if xs.length < line then .ok (.d .non) (S1.set j (some (.lst (xs ++ [x])))) else .no
    | _ => .no)
  | none => .no
theorem isLq_ok {j : Nat} {S S' : SS} {u : Unit} (h : isLq j S = .ok u S') : S' = S ∧ isL (S.at j) = true := by
  unfold isLq at h
  split at h
  · rename_i hl; cases h; exact ⟨rfl, hl⟩
  · cases h
theorem at_slot {K : PySem.W.Frag} {H F : Hp} {O : OW} {σ : St} {S : SS} {j : Nat} (r : Rp K H F O σ S) (h : Ev.isL (S.at j) = true) : ∃ v, σ[j]? = some (some v) := by
  cases em : S.at j with
  | none => rw [em] at h; cases h
  | some m =>
    obtain ⟨w, hw, _⟩ := r.sl j m em
    exact ⟨w, hw⟩
theorem dm_app {j : Nat} {o : Expr} {apos cpos : Pos} {f : FE} (ho : PE X o (tVar j)) (he : DE X f e) (hbase : attributeBase o "append" X.env (eval o X.env) = eval o X.env := by rfl)
    (hfew : ((backTo cpos (starEach [e] X.env)).all (fun x => !x.1) && (backToKw cpos (keywordEach [] X.env)).all (fun x => x.1.isSome)
      && decide ([e].length + ([] : List Keyword).length + (if ([] : List Keyword).isEmpty then 0 else 1) < 30)) = true := by rfl)
    (hline : (apos.endLine == cpos.line) = true := by rfl) (hs : starEach [e] X.env = (false, eval e X.env) :: starEach [] X.env := by rfl) (hplain : (backTo cpos (starEach [] X.env)).any (·.1) = false := by rfl) :
    DM X (mApp j f) (.Call (.Attribute o "append" apos) [e] [] cpos) :=
  PE.imp (pe_bm PySem.F.plainAttrs_list PySem.F.slot_list_append PySem.F.type_list_append mt_append ho (pa_cons he pa_nil hs) hbase hfew hline hs hplain) fun σ H Q ⟨F, O, S, m, S', r, hf, k⟩ => by
    obtain ⟨_, S0, h1, h2⟩ := R.bind_ok hf
    obtain ⟨e0, hl0⟩ := isLq_ok h1
    subst e0
    obtain ⟨oo, S1, h3, h4⟩ := R.bind_ok h2
    obtain ⟨v, hv⟩ := at_slot r hl0
    refine ⟨v, hv, r.isL hl0 hv, F, O, S0, oo, S1, r, h3, fun u H1 F1 O1 st1 r1 ro => ?_⟩
    show rAppend v [u] H1 Q
    cases ef : force oo S1 with
    | none => rw [ef] at h4; cases h4
    | some z =>
      obtain ⟨x, S2⟩ := z
      rw [ef] at h4
      dsimp only at h4
      obtain ⟨F2, O2, st2, r2, rx⟩ := force_ok r1 ro ef
      split at h4
      · rename_i xs em
        split at h4
        · rename_i hlt
          cases h4
          obtain ⟨a, vs, hv2, hH, rv, chg⟩ := r2.mut em
          rw [hv] at hv2
          cases hv2
          obtain ⟨st3, r3⟩ := chg (vs ++ [u]) (xs ++ [x]) (rv.snoc rx)
          exact ⟨a, vs, u, rfl, rfl, hH, by rw [rv.len, ← line_eq]; exact hlt, k _ _ _ _ ((st1.trans st2).trans st3) r3 .non⟩
        · cases h4
      · cases h4
/-- x.pop() -/
def mPop (j : Nat) : FM := fun S => match S.at j with
  | some (.lst xs) => (match xs.getLast? with
    | some x => .ok (.d x) (S.set j (some (.lst xs.dropLast)))
    | none => .no)
  | _ => .no
theorem dm_pop {j : Nat} {o : Expr} {apos cpos : Pos} (ho : PE X o (tVar j)) (hbase : attributeBase o "pop" X.env (eval o X.env) = eval o X.env := by rfl) (hline : (apos.endLine == cpos.line) = true := by rfl) :
    DM X (mPop j) (.Call (.Attribute o "pop" apos) [] [] cpos) :=
  PE.imp (pe_bm0 PySem.F.plainAttrs_list PySem.F.slot_list_pop PySem.F.type_list_pop mt_pop ho hbase hline) fun σ H Q ⟨F, O, S, m, S', r, hf, k⟩ => by
    unfold mPop at hf
    split at hf
    · rename_i xs em
      split at hf
      · rename_i x hx
        cases hf
        obtain ⟨a, vs, hv, hH, rv, chg⟩ := r.mut em
        have hx2 : xs[xs.length - 1]? = some x := by rw [← List.getLast?_eq_getElem?]; exact hx
        obtain ⟨u, hu, ru⟩ := rv.get hx2
        obtain ⟨st3, r3⟩ := chg vs.dropLast xs.dropLast rv.dropLast
        exact ⟨_, hv, r.isL (by rw [em]; rfl) hv, a, vs, u, rfl, rfl, hH, by rw [rv.len]; exact hu, k _ _ _ _ st3 r3 ru⟩
      · cases hf
    · cases hf
/-- x.extend(e) -/
theorem list_extend_tupleW (l : Addr) (items : Array Value) (n : Nat) (b : Addr) (items2 : Array Value) (n2 : Nat) (dd : Option Addr) (sl : Array (Option Value)) (hs0 : ¬(!items.isEmpty && Builtin.List.listTooLong (items.size + items2.size)) = true) (hs1 : items.size ≤ sizeLine) (hs2 : items.size + items2.size ≤ sizeLine + 1) :
    Meets (Builtin.«list.extend» ⟨[.ref l, .ref b], []⟩) (fun _ R s => s.heap.get? l = some { cls := .type "list", dict := none, data := .seq items n, slots := #[] } ∧ s.heap.get? b = some { cls := .type "tuple", dict := dd, data := .seq items2 n2, slots := sl } ∧ R (.ok (.ret Value.none)) { s with heap := s.heap.update l (Obj.mapSeq fun x => x ++ items2), toks := s.toks }) :=
  .of_wp fun prog w A R s h => by
    obtain ⟨hp, g, d, tk, os⟩ := s; obtain ⟨hl, hb, h⟩ := h; have f1 := AutoSeq1.idx_int; have f2 := AutoSeq1.sub_tuple_tuple; have f3 := AutoSeq1.sub_list_list; have f4 := AutoSeq1.sub_tuple_list; have f5 := AutoSeq1.sub_list_tuple
    have hz' : (items ++ items2).size ≤ sizeLine + 1 := by rw [Array.size_append]; exact hs2
    wp_walk using (wpAny_updateSeq hl rfl (hz := hs1) (_hz' := hz')), wpAny_loadPart' hl, wpAny_loadPart' hb
    exact ⟨_, rfl, h⟩
def rExtendA (K : PySem.W.Frag) : V → List V → Hp → VK → Prop := fun x vs H Q => ∃ l b xs zs, x = .ref l ∧ vs = [.ref b] ∧ H l = some (.lst xs) ∧ (Rd H b (.lst zs) ∨ SqT K H b zs) ∧ xs.length + zs.length ≤ sizeLine ∧ Q .non (upd H l (.lst (xs ++ zs)))
theorem mt_extendA : MtM X "list.extend" (rExtendA X.K) := by
  intro pins s σ H x vs v us Q I rx rv h
  obtain ⟨l, b, xs, zs, rfl, rfl, hH, hB, hz, q⟩ := h
  cases rx
  obtain ⟨u, rfl, ru⟩ := rv.one
  cases ru
  obtain ⟨z, its, n, r, hl, e⟩ := I.lstM hH
  rcases hB with hB | hB
  · obtain ⟨z2, its2, n2, r2, hl2, e2⟩ := Inv.rdl I hB
    have hsz : its.toArray.size + its2.toArray.size ≤ sizeLine := by rw [List.size_toArray, List.size_toArray]; omega
    have hlong : ¬ (!its.toArray.isEmpty && Builtin.List.listTooLong (its.toArray.size + its2.toArray.size)) = true := by
      rw [notLongL hsz, Bool.and_false]
      exact Bool.false_ne_true
    refine call_meets PySem.F.slot_list_extend ⟨_, e, rfl⟩ PySem.F.entry_list_extend (PySem.F.args_list_extend_2 _ _)
      (AutoSeq1.list_extend_list_list_0 l its.toArray n b its2.toArray n2 hlong (by rw [List.size_toArray]; omega) (by omega)) ⟨e, e2, ?_⟩
    refine ⟨.non, _, I.lset (its' := its ++ its2) hH e (by simp) (r.append r2) ?_, rfl, q⟩
    rw [List.length_append]
    omega
  · obtain ⟨its2, r2, ⟨⟨cls, dd, data, sl⟩, e2, hc, n2, hd⟩, hs2⟩ := I.tuple hB
    simp only at hc hd
    subst hc hd
    have hl2 := r2.length
    have hsz : its.toArray.size + its2.toArray.size ≤ sizeLine := by rw [List.size_toArray, List.size_toArray]; omega
    have hlong : ¬ (!its.toArray.isEmpty && Builtin.List.listTooLong (its.toArray.size + its2.toArray.size)) = true := by
      rw [notLongL hsz, Bool.and_false]
      exact Bool.false_ne_true
    refine call_meets PySem.F.slot_list_extend ⟨_, e, rfl⟩ PySem.F.entry_list_extend (PySem.F.args_list_extend_2 _ _)
      (list_extend_tupleW l its.toArray n b its2.toArray n2 dd sl hlong (by rw [List.size_toArray]; omega) (by omega)) ⟨e, e2, ?_⟩
    refine ⟨.non, _, I.lset (its' := its ++ its2) hH e (by simp) (r.append r2) ?_, rfl, q⟩
    rw [List.length_append]
    omega
def seqD : D → Option (List D)
  | .lst xs => some xs
  | .tup xs => some xs
  | _ => none
def mExt (j : Nat) (f : FE) : FM := fun S => (isLq j S).bind fun _ S => (f S).bind fun o S1 => match (o.get S1).bind seqD with
  | some ys => (match S1.at j with
    | some (.lst xs) => if xs.length + ys.length ≤ line then .ok (.d .non) (S1.set j (some (.lst (xs ++ ys)))) else .no
    | _ => .no)
  | none => .no
theorem dm_ext {j : Nat} {o : Expr} {apos cpos : Pos} {f : FE} (ho : PE X o (tVar j)) (he : DE X f e) (hbase : attributeBase o "extend" X.env (eval o X.env) = eval o X.env := by rfl)
    (hfew : ((backTo cpos (starEach [e] X.env)).all (fun x => !x.1) && (backToKw cpos (keywordEach [] X.env)).all (fun x => x.1.isSome)
      && decide ([e].length + ([] : List Keyword).length + (if ([] : List Keyword).isEmpty then 0 else 1) < 30)) = true := by rfl)
    (hline : (apos.endLine == cpos.line) = true := by rfl) (hs : starEach [e] X.env = (false, eval e X.env) :: starEach [] X.env := by rfl) (hplain : (backTo cpos (starEach [] X.env)).any (·.1) = false := by rfl) :
    DM X (mExt j f) (.Call (.Attribute o "extend" apos) [e] [] cpos) :=
  PE.imp (pe_bm PySem.F.plainAttrs_list PySem.F.slot_list_extend PySem.F.type_list_extend mt_extendA ho (pa_cons he pa_nil hs) hbase hfew hline hs hplain) fun σ H Q ⟨F, O, S, m, S', r, hf, k⟩ => by
    obtain ⟨_, S0, h1, h2⟩ := R.bind_ok hf
    obtain ⟨e0, hl0⟩ := isLq_ok h1
    subst e0
    obtain ⟨oo, S1, h3, h4⟩ := R.bind_ok h2
    obtain ⟨v, hv⟩ := at_slot r hl0
    refine ⟨v, hv, r.isL hl0 hv, F, O, S0, oo, S1, r, h3, fun u H1 F1 O1 st1 r1 ro => ?_⟩
    show rExtendA X.K v [u] H1 Q
    cases eg : oo.get S1 with
    | none => rw [eg] at h4; cases h4
    | some d =>
      rw [eg] at h4
      have h4 : (match seqD d with
        | some ys => (match S1.at j with
          | some (.lst xs) => if xs.length + ys.length ≤ line then R.ok (M.d .non) (S1.set j (some (.lst (xs ++ ys)))) else .no
          | _ => .no)
        | none => .no) = .ok m S' := h4
      have vw := r1.view ro eg
      have fin : ∀ (b : Addr) (zs : List V) (ys : List D), u = .ref b → (Rd H1 b (.lst zs) ∨ SqT X.K H1 b zs) → RepDs X.K F1 zs ys → (match S1.at j with
          | some (.lst xs) => if xs.length + ys.length ≤ line then R.ok (M.d .non) (S1.set j (some (.lst (xs ++ ys)))) else .no
          | _ => .no) = .ok m S' → rExtendA X.K v [u] H1 Q := by
        intro b zs ys eu hb rz h5
        split at h5
        · rename_i xs em
          split at h5
          · rename_i hz
            cases h5
            obtain ⟨a, vs, hv2, hH, rv, chg⟩ := r1.mut em
            rw [hv] at hv2
            cases hv2
            obtain ⟨st3, r3⟩ := chg (vs ++ zs) (xs ++ ys) (rv.append rz)
            exact ⟨a, b, vs, zs, rfl, by rw [eu], hH, hb, by rw [rv.len, rz.len, ← line_eq]; exact hz, k _ _ _ _ (st1.trans st3) r3 .non⟩
          · cases h5
        · cases h5
      cases d with
      | lst ys =>
        obtain ⟨b, zs, eu, hb, rz⟩ := vw.list r1.bs.fh
        exact fin b zs ys eu (.inl hb) rz h4
      | tup ys =>
        obtain ⟨b, zs, eu, hb, rz⟩ := vw.tuple r1.bs.fh
        exact fin b zs ys eu (.inr hb) rz h4
      | _ => cases h4
/-- x[i] = e -/
def putIx (j : Nat) (k : D) (x : D) (S : SS) : Option SS := match k, S.at j with
  | .int k, some (.lst xs) => (match ixN xs.length k with
    | some n => some (S.set j (some (.lst (xs.set n x))))
    | none => none)
  | _, _ => none
theorem putIx_ok {j : Nat} {k x : D} {S S' : SS} (h : putIx j k x S = some S') : ∃ i xs n, k = .int i ∧ S.at j = some (.lst xs) ∧ ixN xs.length i = some n ∧ S' = S.set j (some (.lst (xs.set n x))) := by
  unfold putIx at h
  split at h
  · rename_i i xs em
    split at h
    · rename_i n hn
      cases h
      exact ⟨i, xs, n, rfl, em, hn, rfl⟩
    · cases h
  · cases h
def sSetIx (j : Nat) (f fi : FE) : FS := fun S => (f S).bind fun o S => match force o S with
  | some (x, S1) => (isLq j S1).bind fun _ S1 => (fi S1).bind fun i S2 => (match i.get S2 with
    | some k => (match putIx j k x S2 with
      | some S3 => .ok .nx S3
      | none => .no)
    | none => .no)
  | none => .no
theorem ds_setIx {kp : Nat → Bool} {j : Nat} {o i : Expr} {spos : Pos} {f fi : FE} (he : DE X f e) (ho : PE X o (tVar j)) (hi : DE X fi i)
    (ha : ∀ v, assign (.Subscript o i pos) X.env v = (do
      let ov ← holding [v] (eval o X.env)
      let iv ← holding [v, ov] (eval i X.env)
      standAt pos
      holding [v, ov, iv] (setItem ov iv v)
      release [v, ov, iv] []) := by intro _; rfl)
    (hs : swapsWithSole [.Subscript o i pos] e spos.line X.env = pure false := by rfl) (hw : swappedStores [.Subscript o i pos] e X.env = pure none := by rfl)
    (h1 : (assignEach [.Subscript o i pos] X.env).map (·.2) = [assign (.Subscript o i pos) X.env] := by rfl) : DS X kp (sSetIx j f fi) (.Assign [.Subscript o i pos] e spos) :=
  PS.imp (ps_asg he (pg_sub ho hi set_list ha) hs hw h1) fun D σ H ⟨F, O, S, fl, S', r, hf, k⟩ => by
    obtain ⟨oo, S1, h1, h2⟩ := R.bind_ok hf
    refine ⟨F, O, S, oo, S1, r, h1, fun v H1 F1 O1 st1 r1 ro => ?_⟩
    cases ef : force oo S1 with
    | none => rw [ef] at h2; cases h2
    | some z =>
      obtain ⟨x, S2⟩ := z
      rw [ef] at h2
      dsimp only at h2
      obtain ⟨F2, O2, st2, r2, rx⟩ := force_ok r1 ro ef
      obtain ⟨_, S2', h3, h4⟩ := R.bind_ok h2
      obtain ⟨e0, hl0⟩ := isLq_ok h3
      subst e0
      obtain ⟨w, hw⟩ := at_slot r2 hl0
      obtain ⟨oi, S3, h5, h6⟩ := R.bind_ok h4
      refine ⟨w, hw, F2, O2, S2', oi, S3, r2, h5, fun iv H3 F3 O3 st3 r3 ri => ?_⟩
      cases eg : oi.get S3 with
      | none => rw [eg] at h6; cases h6
      | some kk =>
        rw [eg] at h6
        dsimp only at h6
        cases ep : putIx j kk x S3 with
        | none => rw [ep] at h6; cases h6
        | some S4 =>
          rw [ep] at h6
          cases h6
          obtain ⟨ii, xs, n, rfl, em, hn, rfl⟩ := putIx_ok ep
          obtain rfl := (r3.view ri eg).int
          obtain ⟨a, vs, hv2, hH, rv, chg⟩ := r3.mut em
          rw [hw] at hv2
          cases hv2
          obtain ⟨st4, r4⟩ := chg (vs.set n v) (xs.set n x) (RepDs.set (rx.mono st3.ff) n rv)
          exact ⟨a, vs, ii, n, rfl, rfl, hH, by rw [rv.len]; exact hn, k σ _ _ _ (((st1.trans st2).trans st3).trans st4) r4 (Kp.refl _ _)⟩
/-! ### x op= e -/
def OpDi (X : Cx) (op : Operator) (g : D → D → Option M) : Prop := OpR X (inplaceOp op) (semR X.K g)
def iaddD : D → D → Option M
  | .int i, .int j => some (.d (.int (i + j)))
  | .str x, .str y => if x.length + y.length ≤ line then some (.d (.str (x ++ y))) else none
  | _, _ => none
theorem oi_add : OpDi X .Add iaddD := by
  intro pins s σ H x y v u Q I rx ry ⟨F, a, b, m, l, va, vb, e, w⟩
  cases a with
  | int i =>
    obtain rfl := va.int
    cases b with
    | int j => obtain rfl := vb.int; cases e; exact iop_add pins s σ H _ _ v u Q I rx ry ⟨i, j, rfl, rfl, w.int⟩
    | _ => cases e
  | str i =>
    obtain rfl := va.str
    cases b with
    | str j =>
      obtain rfl := vb.str
      have e : (if i.length + j.length ≤ line then some (M.d (.str (i ++ j))) else none) = some m := e
      split at e
      · rename_i hz; cases e; exact iop_add_str pins s σ H _ _ v u Q I rx ry ⟨i, j, rfl, rfl, by rw [← line_eq]; exact hz, w.str⟩
      · cases e
    | _ => cases e
  | _ => cases e
theorem oi_sub : OpDi X .Sub subD := by
  intro pins s σ H x y v u Q I rx ry ⟨F, a, b, m, l, va, vb, e, w⟩
  cases a with
  | int i =>
    obtain rfl := va.int
    cases b with
    | int j => obtain rfl := vb.int; cases e; exact iop_sub pins s σ H _ _ v u Q I rx ry ⟨i, j, rfl, rfl, w.int⟩
    | _ => cases e
  | _ => cases e
/-- a result that is frozen data -/
def asD : M → Option D
  | .d x => some x
  | _ => none
def sAug (i : Nat) (g : D → D → Option M) (f : FE) : FS := fun S => match S.at i with
  | some (.d x) => (f S).bind fun o S => (match o.get S with
    | some y => (match g x y with
      | some (.d z) => .ok .nx (S.set i (some (.d z)))
      | _ => .no)
    | none => .no)
  | _ => .no
theorem Rp.wishD {K : PySem.W.Frag} {H F : Hp} {O : OW} {σ : St} {S : SS} {z : D} {Q : VK} (r : Rp K H F O σ S) (k : ∀ v H' F' O', Stp H F O H' F' O' → Rp K H' F' O' σ S → RepD K F' v z → Q v H') : Wish K H F (.d z) Q :=
  r.wish fun v H' F' O' st r' rm => k v H' F' O' st r' rm
theorem ds_aug {kp : Nat → Bool} {i : Nat} {x : Str} {op : Operator} {g : D → D → Option M} {f : FE} {pos' : Pos} (hN : X.N.Nodup) (hi : X.N[i]? = some x) (hx : Loc X.env.scope x) (hk : kp i = false) (he : DE X f e) (ho : OpDi X op g)
    (hf : X.fn x = true ∨ X.env.scope.names.lookup x = some .local := by first | exact .inl rfl | exact .inr rfl | assumption) : DS X kp (sAug i g f) (.AugAssign (.Name x pos') op e pos) :=
  PS.imp (ps_aug (ti := semR X.K g) hN hi hx he ho hf) fun D σ H ⟨F, O, S, fl, S', r, hf, k⟩ => by
    unfold sAug at hf
    split at hf
    · rename_i old em
      obtain ⟨o, S1, h1, h2⟩ := R.bind_ok hf
      obtain ⟨v, hv, rm⟩ := r.sl i _ em
      refine ⟨v, hv, F, O, S, o, S1, r, h1, fun u H1 F1 O1 st1 r1 ro => ?_⟩
      cases eg : o.get S1 with
      | none => rw [eg] at h2; cases h2
      | some y =>
        rw [eg] at h2
        dsimp only at h2
        cases ez : g old y with
        | none => rw [ez] at h2; cases h2
        | some m =>
          rw [ez] at h2
          cases m with
          | d z =>
            cases h2
            exact ⟨F1, old, y, _, r1.bs.fh, .fz (RepD.mono st1.ff rm), r1.view ro eg, ez, r1.wishD fun w H2 F2 O2 st2 r2 rz => k _ H2 F2 O2 (st1.trans st2) (r2.putD rz) (Kp.set hk)⟩
          | _ => cases h2
    · cases hf
theorem pget_list : PGet X (rIxL X.K) := by
  intro pins s σ H o i ov iv Q I ro ri h
  obtain ⟨p, xs, i, z, rfl, rfl, hq, he, q⟩ := h
  cases ro
  obtain ⟨t, rfl⟩ := ri
  obtain ⟨its, r, pl, hz⟩ := I.list hq
  obtain ⟨j, h1, h2, h3, h4, h5⟩ := atI_get he
  obtain ⟨w, ew, rw'⟩ := r.get h2
  have hl := r.length
  have hn := line63
  have fin : EP X pins σ Q w s := ⟨z, H, I, rw', q⟩
  by_cases h0 : 0 ≤ i
  · have hj : i.toNat = j := by
      rw [PySem.seqIndex_of h0 h5] at h1
      exact Option.some.inj h1
    exact wpAny_getItem_list pl.isList h0 (by omega) (by rw [hj]; simpa using ew) fin
  · have hj : (i + (its.toArray.size : Int)).toNat = j := by
      rw [PySem.seqIndex_neg (by omega) h4] at h1
      rw [List.size_toArray, ← hl]
      exact Option.some.inj h1
    exact wpAny_getItem_list_neg pl.isList (by omega) (by rw [List.size_toArray] <;> omega) (by omega) (by rw [hj]; simpa using ew) fin
/-- x[i] op= e -/
def sAugIx (j : Nat) (g : D → D → Option M) (fi f : FE) : FS := fun S => (isLq j S).bind fun _ S => (fi S).bind fun oi S => match oi.get S, S.at j with
  | some (.int k), some (.lst xs) => (match atI xs k with
    | some old => (f S).bind fun o S => (match o.get S with
      | some y => (match g old y with
        | some (.d z) => (match putIx j (.int k) z S with
          | some S3 => .ok .nx S3
          | none => .no)
        | _ => .no)
      | none => .no)
    | none => .no)
  | _, _ => .no
theorem ds_augIx {kp : Nat → Bool} {j : Nat} {o i : Expr} {op : Operator} {g : D → D → Option M} {f fi : FE} {tpos : Pos} (ho : PE X o (tVar j)) (hi : DE X fi i) (he : DE X f e) (hop : OpDi X op g)
    (ha : ∀ ov iv new, augStore i ov iv new = (do holding [new, ov, iv] (setItem ov iv new); release [new, ov, iv] []; pure .next) := by intros; rfl) : DS X kp (sAugIx j g fi f) (.AugAssign (.Subscript o i tpos) op e pos) :=
  PS.imp (ps_augS ho hi pget_list he (show PIp X op (semR X.K g) from hop) set_list ha) fun D σ H ⟨F, O, S, fl, S', r, hf, k⟩ => by
    obtain ⟨_, S0, h1, h2⟩ := R.bind_ok hf
    obtain ⟨e0, hl0⟩ := isLq_ok h1
    subst e0
    obtain ⟨w, hw⟩ := at_slot r hl0
    obtain ⟨oi, S1, h3, h4⟩ := R.bind_ok h2
    refine ⟨w, hw, F, O, S0, oi, S1, r, h3, fun iv H1 F1 O1 st1 r1 ri => ?_⟩
    split at h4
    · rename_i kk xs eg em
      obtain rfl := (r1.view ri eg).int
      obtain ⟨a, vs, hv2, hH, rv, _⟩ := r1.mut em
      rw [hw] at hv2
      cases hv2
      cases ea : atI xs kk with
      | none => rw [ea] at h4; cases h4
      | some old =>
        rw [ea] at h4
        dsimp only at h4
        obtain ⟨vo, hvo, rvo⟩ := rv.ati ea
        refine ⟨a, vs, kk, vo, rfl, rfl, .inl (.inl hH), hvo, ?_⟩
        obtain ⟨oo, S2, h5, h6⟩ := R.bind_ok h4
        refine ⟨F1, O1, S1, oo, S2, r1, h5, fun u H2 F2 O2 st2 r2 ro => ?_⟩
        cases eg2 : oo.get S2 with
        | none => rw [eg2] at h6; cases h6
        | some y =>
          rw [eg2] at h6
          dsimp only at h6
          cases ez : g old y with
          | none => rw [ez] at h6; cases h6
          | some m =>
            rw [ez] at h6
            cases m with
            | d z =>
              dsimp only at h6
              cases ep : putIx j (.int kk) z S2 with
              | none => rw [ep] at h6; cases h6
              | some S3 =>
                rw [ep] at h6
                cases h6
                obtain ⟨ii, xs2, n, e1, em2, hn, rfl⟩ := putIx_ok ep
                cases e1
                refine ⟨F2, old, y, _, r2.bs.fh, .fz (RepD.mono st2.ff rvo), r2.view ro eg2, ez, r2.wishD fun vz H3 F3 O3 st3 r3 rz => ?_⟩
                obtain ⟨a2, vs2, hv3, hH2, rv2, chg2⟩ := r3.mut em2
                rw [hw] at hv3
                cases hv3
                obtain ⟨st4, r4⟩ := chg2 (vs2.set n vz) (xs2.set n z) (RepDs.set rz n rv2)
                exact ⟨_, vs2, kk, n, rfl, rfl, hH2, by rw [rv2.len]; exact hn, k σ _ _ _ (((st1.trans st2).trans st3).trans st4) r4 (Kp.refl _ _)⟩
            | _ => cases h6
    · cases h4

/-! ### built-ins -/
inductive Views (K : PySem.W.Frag) (H F : Hp) : List V → List D → Prop
  | nil : Views K H F [] []
  | cons {v : V} {vs : List V} {d : D} {ds : List D} : View K H F v d → Views K H F vs ds → Views K H F (v :: vs) (d :: ds)
def semC (K : PySem.W.Frag) (g : List D → Option M) : List V → Hp → VK → Prop := fun vs H Q => ∃ F xs m, Le F H ∧ Views K H F vs xs ∧ g xs = some m ∧ Wish K H F m Q
def getAll : List Ov → SS → Option (List D)
  | [], _ => some []
  | o :: os, S => match o.get S with
    | some d => (match getAll os S with
      | some ds => some (d :: ds)
      | none => none)
    | none => none
theorem getAll_ok {K : PySem.W.Frag} {H F : Hp} {O : OW} {σ : St} {S : SS} (r : Rp K H F O σ S) : ∀ {vs : List V} {os : List Ov} {ds : List D}, RepOvs K F σ vs os → getAll os S = some ds → Views K H F vs ds
  | _, _, _, .nil, h => by cases h; exact .nil
  | _, o :: os, ds, .cons ro rs, h => by
    have h : (match o.get S with | some d => (match getAll os S with | some ds => some (d :: ds) | none => none) | none => none) = some ds := h
    cases e1 : o.get S with
    | none => rw [e1] at h; cases h
    | some d =>
      rw [e1] at h
      dsimp only at h
      cases e2 : getAll os S with
      | none => rw [e2] at h; cases h
      | some dr =>
        rw [e2] at h
        cases h
        exact .cons (r.view ro e1) (getAll_ok r rs e2)
def mBlt (g : List D → Option M) (fas : FA) : FM := fun S => (fas S).bind fun os S => match getAll os S with
  | some ds => (match g ds with
    | some m => .ok m S
    | none => .no)
  | none => .no
theorem blt_rd {K : PySem.W.Frag} {g : List D → Option M} {fas : FA} {σ : St} {H : Hp} {Q : VK} (h : rdM K (mBlt g fas) σ H Q) : tCB (semC K g) (rdA K fas) σ H Q := by
  obtain ⟨F, O, S, m, S', r, hf, k⟩ := h
  obtain ⟨os, S1, h1, h2⟩ := R.bind_ok hf
  refine ⟨F, O, S, os, S1, r, h1, fun vs H1 F1 O1 st1 r1 ro => ?_⟩
  cases eg : getAll os S1 with
  | none => rw [eg] at h2; cases h2
  | some ds =>
    rw [eg] at h2
    dsimp only at h2
    cases em : g ds with
    | none => rw [em] at h2; cases h2
    | some m' =>
      rw [em] at h2
      cases h2
      exact ⟨F1, ds, m, r1.bs.fh, getAll_ok r1 ro eg, em, r1.wish fun w H2 F2 O2 st2 r2 rm => k w H2 F2 O2 (st1.trans st2) r2 rm⟩
theorem dm_blt {id : String} {x : Str} {es : List Expr} {p : Pos} {g : List D → Option M} {fas : FA} (hc : CallR X (.builtin id) (semC X.K g)) (hg : Gl X x) (hm : X.mg x = none) (hv : bootBuiltins x = some (.builtin id)) (ha : DA X fas (e :: es))
    (hn : x ≠ "__name__" := by decide) (hdb : (x == ("__debug__" : Str)) = false := by decide)
    (he : starEach (e :: es) X.env = (false, eval e X.env) :: starEach es X.env := by rfl) (hpl : (backTo pos (starEach es X.env)).any (·.1) = false := by rfl) : DM X (mBlt g fas) (.Call (.Name x p) (e :: es) [] pos) :=
  PE.imp (pe_callB hc hg hm hv ha hn hdb he hpl) fun σ H Q h => blt_rd h
theorem dm_bty {T : String} {x : Str} {es : List Expr} {p : Pos} {g : List D → Option M} {fas : FA} (hc : CallR X (.type T) (semC X.K g)) (hg : Gl X x) (hm : X.mg x = none) (hv : bootBuiltins x = some (.type T)) (ha : DA X fas (e :: es))
    (hn : x ≠ "__name__" := by decide) (hdb : (x == ("__debug__" : Str)) = false := by decide)
    (he : starEach (e :: es) X.env = (false, eval e X.env) :: starEach es X.env := by rfl) (hpl : (backTo pos (starEach es X.env)).any (·.1) = false := by rfl) : DM X (mBlt g fas) (.Call (.Name x p) (e :: es) [] pos) :=
  PE.imp (pe_callTy hc hg hm hv ha hn hdb he hpl) fun σ H Q h => blt_rd h
end

def D.knd : D → String
  | .non => "NoneType"
  | .bl _ => "bool"
  | .int _ => "int"
  | .str _ => "str"
  | .tup _ => "tuple"
  | .lst _ => "list"
  | .dk _ => "dict"
  | .dt _ => "dict"
  | _ => ""
def on1 (g : D → Option M) : List D → Option M
  | [x] => g x
  | _ => none
def on2 (g : D → D → Option M) : List D → Option M
  | [x, y] => g x y
  | _ => none
theorem call1 {X : Cx} {f : Value} {g : D → Option M} (h : ∀ (pins : List (Addr × Obj)) (s : Shared) (σ : St) (H F : Hp) (v : V) (x : D) (us : List Value) (m : M) (Q : VK), Inv X pins σ H s → Vals [v] us → Le F H → View X.K H F v x → g x = some m → Wish X.K H F m Q →
    wpAny (model X.prog X.w) X.A (call f us) (EP X pins σ Q) X.xe s) : CallR X f (semC X.K (on1 g)) := by
  intro pins s σ H vs us Q I r ⟨F, xs, m, l, w, e, wi⟩
  cases w with
  | nil => cases e
  | cons wx w =>
    cases w with
    | nil => exact h pins s σ H F _ _ us m Q I r l wx e wi
    | cons _ _ => cases e
theorem call2 {X : Cx} {f : Value} {g : D → D → Option M} (h : ∀ (pins : List (Addr × Obj)) (s : Shared) (σ : St) (H F : Hp) (v w : V) (x y : D) (us : List Value) (m : M) (Q : VK), Inv X pins σ H s → Vals [v, w] us → Le F H → View X.K H F v x → View X.K H F w y → g x y = some m → Wish X.K H F m Q →
    wpAny (model X.prog X.w) X.A (call f us) (EP X pins σ Q) X.xe s) : CallR X f (semC X.K (on2 g)) := by
  intro pins s σ H vs us Q I r ⟨F, xs, m, l, w, e, wi⟩
  cases w with
  | nil => cases e
  | cons wx w =>
    cases w with
    | nil => cases e
    | cons wy w =>
      cases w with
      | nil => exact h pins s σ H F _ _ _ _ us m Q I r l wx wy e wi
      | cons _ _ => cases e
def isiK (k n : String) : Bool := k == n || (k == "bool" && n == "int")
def isiD (x y : D) : Option M := match y with
  | .ty n => if x.knd ≠ "" ∧ (n = "int" ∨ n = "bool" ∨ n = "str" ∨ n = "tuple" ∨ n = "list" ∨ n = "dict") then some (.d (.bl (isiK x.knd n))) else none
  | _ => none
theorem View.tyX {K : PySem.W.Frag} {H F : Hp} {v : V} {d : D} (l : Le F H) (h : View K H F v d) (hk : d.knd ≠ "") : TyX K H v (.type d.knd) := by
  have rd : ∀ {a : Addr} {vs : List V}, Rd H a (.lst vs) → TyX K H (.ref a) (.type "list") := fun {a vs} h => by
    rcases h with h | ⟨o, h⟩
    · exact .base (.lst h)
    · exact .base (.frz h)
  cases h with
  | fz h =>
    cases h with
    | non => exact .base .non
    | bl b => exact .base (.bl b)
    | int i => exact .base (.int i)
    | str x => exact .base (.str x)
    | tup hs _ =>
      rcases l.st hs with (h | ⟨o, h⟩) | ⟨o, its, n, hk, hc, _⟩
      · exact .base (.tup h)
      · exact .fTuple h
      · exact .kTuple hk hc
    | lst hs _ => exact rd (l.rd hs)
    | dk hs _ _ =>
      rcases l.rd hs with h | ⟨o, h⟩
      · exact .base (.dK h)
      · exact .fDict h
    | ty n => exact absurd rfl hk
    | scr _ _ => exact absurd rfl hk
  | lst h _ => exact .base (.lst h)
  | dk h _ _ => exact .base (.dK h)
theorem kit_all : ∀ k ∈ ["NoneType", "bool", "int", "str", "tuple", "list", "dict"], ∀ n ∈ ["int", "bool", "str", "tuple", "list", "dict"], kitB k n = some (isiK k n) := by decide +kernel
section
variable {X : Cx}
theorem cd_isi : CallR X (.builtin "isinstance") (semC X.K (on2 isiD)) := call2 fun pins s σ H F v w x y us m Q I r l wx wt e wi => by
  cases y with
  | ty n =>
    obtain rfl := wt.ty
    have e : (if x.knd ≠ "" ∧ (n = "int" ∨ n = "bool" ∨ n = "str" ∨ n = "tuple" ∨ n = "list" ∨ n = "dict") then some (M.d (.bl (isiK x.knd n))) else none) = some m := e
    split at e
    · rename_i hh
      cases e
      have hk : kitB x.knd n = some (isiK x.knd n) := by
        refine kit_all _ ?_ _ ?_
        · have := hh.1
          cases x <;> simp [D.knd] at this ⊢
        · rcases hh.2 with h | h | h | h | h | h <;> simp [h]
      exact call_isi pins s σ H _ us Q I r ⟨_, .ty n, _, .type n, isiK x.knd n, rfl, .ty n, wx.tyX l hh.1, kit_ty hk, wi.bl⟩
    · cases e
  | _ => cases e
def absD : D → Option M
  | .int i => some (.d (.int (if i < 0 then -i else i)))
  | _ => none
theorem cd_abs : CallR X (.builtin "abs") (semC X.K (on1 absD)) := call1 fun pins s σ H F v x us m Q I r l wx e wi => by
  cases x with
  | int i => obtain rfl := wx.int; cases e; exact call_abs pins s σ H _ us Q I r ⟨i, rfl, wi.int⟩
  | _ => cases e
def lenD : D → Option M
  | .lst xs => some (.d (.int xs.length))
  | .scr xs => some (.d (.int xs.length))
  | .tup xs => some (.d (.int xs.length))
  | .str x => if x.length ≤ line then some (.d (.int x.length)) else none
  | _ => none
theorem cd_len : CallR X (.builtin "len") (semC X.K (on1 lenD)) := call1 fun pins s σ H F v x us m Q I r l wx e wi => by
  cases x with
  | lst ds =>
    obtain ⟨a, vs, rfl, h1, r1⟩ := wx.list l
    cases e
    exact call_len pins s σ H _ us Q I r ⟨_, _, rfl, .inl ⟨vs, .inl h1, rfl⟩, by rw [r1.len]; exact wi.int⟩
  | scr ds =>
    obtain ⟨a, vs, rfl, h1, r1⟩ := wx.scr l
    cases e
    exact call_len pins s σ H _ us Q I r ⟨_, _, rfl, .inl ⟨vs, h1, rfl⟩, by rw [r1.len]; exact wi.int⟩
  | tup ds =>
    obtain ⟨a, vs, rfl, h1, r1⟩ := wx.tuple l
    cases e
    exact call_len pins s σ H _ us Q I r ⟨_, _, rfl, .inr ⟨vs, h1, rfl⟩, by rw [r1.len]; exact wi.int⟩
  | str x =>
    obtain rfl := wx.str
    have e : (if x.length ≤ line then some (M.d (.int x.length)) else none) = some m := e
    split at e
    · rename_i hz
      cases e
      exact call_len pins s σ H _ us Q I r ⟨_, _, rfl, ⟨by rw [← line_eq]; exact hz, rfl⟩, wi.int⟩
    · cases e
  | _ => cases e
def maxD : D → D → Option M
  | .int i, .int j => some (.d (.int (if j > i then j else i)))
  | _, _ => none
theorem cd_max (hc : X.calm = true) : CallR X (.builtin "max") (semC X.K (on2 maxD)) := call2 fun pins s σ H F v w x y us m Q I r l wx wy e wi => by
  cases x with
  | int i =>
    cases y with
    | int j => obtain rfl := wx.int; obtain rfl := wy.int; cases e; exact call_max2 hc pins s σ H _ us Q I r ⟨i, j, rfl, wi.int⟩
    | _ => cases e
  | _ => cases e
def minD : D → D → Option M
  | .int i, .int j => some (.d (.int (if j < i then j else i)))
  | _, _ => none
theorem cd_min (hc : X.calm = true) : CallR X (.builtin "min") (semC X.K (on2 minD)) := call2 fun pins s σ H F v w x y us m Q I r l wx wy e wi => by
  cases x with
  | int i =>
    cases y with
    | int j => obtain rfl := wx.int; obtain rfl := wy.int; cases e; exact call_min2 hc pins s σ H _ us Q I r ⟨i, j, rfl, wi.int⟩
    | _ => cases e
  | _ => cases e
def intD : D → Option M
  | .int i => some (.d (.int i))
  | .bl b => some (.d (.int (if b then 1 else 0)))
  | _ => none
theorem cd_int : CallR X (.type "int") (semC X.K (on1 intD)) := call1 fun pins s σ H F v x us m Q I r l wx e wi => by
  cases x with
  | int i => obtain rfl := wx.int; cases e; exact call_int1 pins s σ H _ us Q I r (.inl ⟨i, rfl, wi.int⟩)
  | bl i => obtain rfl := wx.bl; cases e; exact call_int1 pins s σ H _ us Q I r (.inr ⟨i, rfl, wi.int⟩)
  | _ => cases e
def strD : D → Option M
  | .int i => if -(2 ^ 64) < i ∧ i < 2 ^ 64 then some (.d (.str (toString i))) else none
  | .str x => some (.d (.str x))
  | _ => none
theorem cd_str : CallR X (.type "str") (semC X.K (on1 strD)) := call1 fun pins s σ H F v x us m Q I r l wx e wi => by
  cases x with
  | int i =>
    obtain rfl := wx.int
    have e : (if -(2 ^ 64) < i ∧ i < 2 ^ 64 then some (M.d (.str (toString i))) else none) = some m := e
    split at e
    · rename_i hz
      cases e
      exact call_str_int pins s σ H _ us Q I r ⟨i, rfl, Nat.lt_of_lt_of_le (PySem.Flt.log2_lt_of (k := 64) (by decide) (by omega)) (by decide), wi.str⟩
    · cases e
  | str i => obtain rfl := wx.str; cases e; exact SkE.call_str_str pins s σ H _ us Q I r ⟨i, rfl, wi.str⟩
  | _ => cases e
def listD : D → Option M
  | .lst xs => some (.lst xs)
  | .scr xs => some (.lst xs)
  | .tup xs => some (.lst xs)
  | _ => none
theorem cd_list : CallR X (.type "list") (semC X.K (on1 listD)) := call1 fun pins s σ H F v x us m Q I r l wx e wi => by
  cases x with
  | lst ds =>
    obtain ⟨a, vs, rfl, h1, r1⟩ := wx.list l
    cases e
    exact call_list_of pins s σ H _ us Q I r ⟨a, vs, rfl, .inl (.inl h1), fun p hp => wi.l _ p _ rfl hp r1⟩
  | scr ds =>
    obtain ⟨a, vs, rfl, h1, r1⟩ := wx.scr l
    cases e
    exact call_list_of pins s σ H _ us Q I r ⟨a, vs, rfl, .inl h1, fun p hp => wi.l _ p _ rfl hp r1⟩
  | tup ds =>
    obtain ⟨a, vs, rfl, h1, r1⟩ := wx.tuple l
    cases e
    exact call_list_of pins s σ H _ us Q I r ⟨a, vs, rfl, .inr h1, fun p hp => wi.l _ p _ rfl hp r1⟩
  | _ => cases e
def tupleD : D → Option M
  | .lst xs => some (.d (.tup xs))
  | .tup xs => some (.d (.tup xs))
  | _ => none
theorem cd_tuple : CallR X (.type "tuple") (semC X.K (on1 tupleD)) := call1 fun pins s σ H F v x us m Q I r l wx e wi => by
  cases x with
  | lst ds =>
    obtain ⟨a, vs, rfl, h1, r1⟩ := wx.list l
    cases e
    exact call_tuple_of pins s σ H _ us Q I r ⟨a, vs, rfl, .inl ⟨.inl h1, fun p hp => wi.t _ p _ rfl hp r1⟩⟩
  | tup ds =>
    obtain ⟨a, vs, ev, h1, r1⟩ := wx.tuple l
    subst ev
    cases e
    refine call_tuple_of pins s σ H _ us Q I r ⟨a, vs, rfl, .inr ⟨h1, ?_⟩⟩
    cases wx with
    | fz h => exact wi.d _ _ rfl h
  | _ => cases e
def asInts : List D → Option (List Int)
  | [] => some []
  | .int i :: ds => (asInts ds).map (i :: ·)
  | _ :: _ => none
theorem asInts_ok {K : PySem.W.Frag} {F : Hp} : ∀ {ds : List D} {ns : List Int} {vs : List V}, asInts ds = some ns → RepDs K F vs ds → vs = ns.map V.int
  | [], _, _, e, .nil => by cases e; rfl
  | d :: ds, ns, _, e, .cons h r => by
    cases d with
    | int i =>
      have e : (asInts ds).map (i :: ·) = some ns := e
      cases e2 : asInts ds with
      | none => rw [e2] at e; cases e
      | some ms =>
        rw [e2] at e
        cases e
        cases h
        rw [asInts_ok e2 r]
        rfl
    | _ => cases e
def asBls : List D → Option (List Bool)
  | [] => some []
  | .bl i :: ds => (asBls ds).map (i :: ·)
  | _ :: _ => none
theorem asBls_ok {K : PySem.W.Frag} {F : Hp} : ∀ {ds : List D} {ns : List Bool} {vs : List V}, asBls ds = some ns → RepDs K F vs ds → vs = ns.map V.bl
  | [], _, _, e, .nil => by cases e; rfl
  | d :: ds, ns, _, e, .cons h r => by
    cases d with
    | bl i =>
      have e : (asBls ds).map (i :: ·) = some ns := e
      cases e2 : asBls ds with
      | none => rw [e2] at e; cases e
      | some ms =>
        rw [e2] at e
        cases e
        cases h
        rw [asBls_ok e2 r]
        rfl
    | _ => cases e
def sumD : D → Option M
  | .lst xs => (asInts xs).map fun ns => .d (.int ns.sum)
  | _ => none
theorem cd_sum (hc : X.calm = true) : CallR X (.builtin "sum") (semC X.K (on1 sumD)) := call1 fun pins s σ H F v x us m Q I r l wx e wi => by
  cases x with
  | lst ds =>
    obtain ⟨a, vs, rfl, h1, r1⟩ := wx.list l
    have e : (asInts ds).map (fun ns => M.d (.int ns.sum)) = some m := e
    cases e2 : asInts ds with
    | none => rw [e2] at e; cases e
    | some ns =>
      rw [e2] at e
      cases e
      exact cr_sum hc pins s σ H _ us Q I r ⟨a, ns, rfl, .inl (by rw [← asInts_ok e2 r1]; exact h1), wi.int⟩
  | _ => cases e
def allD : D → Option M
  | .lst xs => (asBls xs).map fun ns => .d (.bl (ns.all id))
  | _ => none
theorem cd_all (hc : X.calm = true) : CallR X (.builtin "all") (semC X.K (on1 allD)) := call1 fun pins s σ H F v x us m Q I r l wx e wi => by
  cases x with
  | lst ds =>
    obtain ⟨a, vs, rfl, h1, r1⟩ := wx.list l
    have e : (asBls ds).map (fun ns => M.d (.bl (ns.all id))) = some m := e
    cases e2 : asBls ds with
    | none => rw [e2] at e; cases e
    | some ns =>
      rw [e2] at e
      cases e
      exact cr_all hc pins s σ H _ us Q I r ⟨a, ns, rfl, .inl (by rw [← asBls_ok e2 r1]; exact h1), wi.bl⟩
  | _ => cases e
def anyD : D → Option M
  | .lst xs => (asBls xs).map fun ns => .d (.bl (ns.any id))
  | _ => none
theorem cd_any (hc : X.calm = true) : CallR X (.builtin "any") (semC X.K (on1 anyD)) := call1 fun pins s σ H F v x us m Q I r l wx e wi => by
  cases x with
  | lst ds =>
    obtain ⟨a, vs, rfl, h1, r1⟩ := wx.list l
    have e : (asBls ds).map (fun ns => M.d (.bl (ns.any id))) = some m := e
    cases e2 : asBls ds with
    | none => rw [e2] at e; cases e
    | some ns =>
      rw [e2] at e
      cases e
      exact cr_any hc pins s σ H _ us Q I r ⟨a, ns, rfl, .inl (by rw [← asBls_ok e2 r1]; exact h1), wi.bl⟩
  | _ => cases e
end
/-! ### the law's end -/
/-- the script's list -/
def scrD (ns : List Int) : D := .scr (ns.map .int)
theorem repDs_ints {K : PySem.W.Frag} {F : Hp} : ∀ ns : List Int, RepDs K F (ns.map V.int) (ns.map D.int)
  | [] => .nil
  | n :: ns => .cons (.int n) (repDs_ints ns)
/-- what walk_of asks of the law's promise -/
theorem law_sp {K : PySem.W.Frag} {g : List M → CR} {H : Hp} {a : Addr} {ns : List Int} (hH : L2.Only H) (hS : SqL K H a (ns.map V.int)) (hg : ∃ fin, g [.d (scrD ns)] = .ok (.d (.bl true)) fin) :
    spD K 1 g [.ref a] H (fun v _ => v = .bl true) fun _ _ _ => False := by
  obtain ⟨fin, hg⟩ := hg
  refine ⟨H, fun _ => none, [.d (scrD ns)], _, fin, rfl, rfl, ⟨Le.refl _, fun a q e => by cases e⟩, fun p m e => ?_, hg, fun v H' F' O' st bs rm rf => ?_⟩
  · cases p with
    | zero => simp at e; subst e; exact ⟨.ref a, by simp, .scr hS (repDs_ints ns)⟩
    | succ p => simp at e
  · cases (show RepD K F' v (.bl true) from rm)
    rfl
/-- the law's call, from a promise that holds where no repr is under way -/
theorem law_callG {P : Program} {w : World} {K : PySem.W.Frag} {mg mb : Str → Option Value} {k : Nat} {fa a : Addr} {fd : FuncData} {x : Str} {sp : Sp} {s₁ : Shared} {vs : List Value} {ns : List Int}
    (KX : K.In s₁.heap) (hns : s₁.heap.Ns mainGlobals mg) (hb : s₁.heap.Ns builtinsNs mb) (hbb : ∀ x : Str, x ≠ "__name__" → mb x = bootBuiltins x) (hlim : s₁.heap.NoLimit) (hg : s₁.gens = #[])
    (ha : s₁.heap.get? a = some { cls := .type "list", data := .seq vs.toArray }) (hi : IntsAre vs ns) (hl : ns.length ≤ sizeLine) (hr : RoomG k callerA)
    (F : ∀ base : Heap, K.In base → base.Ns mainGlobals mg → FnG P w K mg base k fa fd [x] sp) (hbind : ∀ (s : Shared) (u : Value), BindsTo s fd ⟨[u], []⟩ [(x, u)])
    (hsp : ∀ H : Hp, L2.Only H → SqL K H a (ns.map V.int) → sp [.ref a] H (fun v _ => v = .bl true) fun _ _ _ => False) :
    codeAny (model P w) callerA (.call (.ref fa) ⟨[.ref a], []⟩) (fun r s' => r = .ok (.ret (.bool true)) ∧ OldK s₁.heap s'.heap ∧ s'.os = s₁.os ∧ AllBare s'.gens) s₁ := by
  have rv := L2.vals_ints hi
  have noB : ∀ b ∈ frs ([] : List Env), ∀ q : Prop, q := fun b z => absurd (show b ∈ ([] : List Addr) from z) (by simp)
  -- all from one abstract heap
  suffices h : ∃ H : Hp, L2.Only H ∧ SqL K H a (ns.map V.int) ∧ HOk P w H s₁.heap ∧ (∀ b, H b ≠ none → b = a ∧ K.lookup a = none) by
    obtain ⟨H, hO, hS, hok, hA⟩ := h
    have only : ∀ {b : Addr}, b ≠ a → H b = none := fun {b} n => by
      cases q : H b with
      | none => rfl
      | some u => exact absurd (hA b (by rw [q]; simp)).1 n
    have nsK : ∀ {b : Addr} {m : Str → Option Value}, s₁.heap.Ns b m → (hidT s₁.heap H).Ns b m := fun {b m} ⟨o, es, ep, e, d, r⟩ => by
      refine ⟨o, es, ep, hidT_get e (only fun z => ?_), d, r⟩
      rw [z, ha] at e
      cases e
      cases d
    have hKb : K.In (hidT s₁.heap H) := fun b o e => hidT_get (KX b o e) (by
      cases q : H b with
      | none => rfl
      | some u =>
        obtain ⟨rfl, z⟩ := hA b (by rw [q]; simp)
        rw [z] at e
        cases e)
    obtain ⟨mc, l1, l2⟩ := hlim
    have e0 : Env0 P w K mg (hidT s₁.heap H) callerA [] s₁ H :=
      ⟨rfl, ⟨hKb, nsK hns, ⟨mb, nsK hb, hbb⟩, ⟨mc, nsK l1, l2⟩⟩, fun b o e => of_hidT e, Nat.le_of_eq (hidT_size _ _), trivial, fun b z => noB b z _, hok, .of_eq hg⟩
    refine codeAny_mono ((F _ hKb (nsK hns)).run callerA [] s₁ H ⟨[.ref a], []⟩ [.ref a] [.ref a] _ _ hr e0 (hbind s₁ (.ref a)) (.cons rfl .nil) (hsp H hO hS)) fun r s' h => ?_
    cases r with
    | error e => exact False.elim h
    | ok fl =>
      cases fl with
      | next => exact False.elim h
      | brk => exact False.elim h
      | cont => exact False.elim h
      | ret u =>
        obtain ⟨v, H', os, bare, un, hok', r', rfl⟩ := h
        obtain rfl : u = Value.bool true := r'
        refine ⟨rfl, OldK.of_keep fun b o e => ?_, os, bare⟩
        rcases hO b with z | ⟨ob, xs, z⟩
        · exact un.keep b o e z (fun q => noB b q _) (by simp)
        · have e1 := (hok b _ z).1
          rw [e] at e1
          cases e1
          exact (hok' b _ (un.frzs b _ _ z)).1
  cases hk : K.lookup a with
  | some o =>
    have e := KX a o hk
    rw [ha] at e
    cases e
    exact ⟨fun _ => none, fun _ => .inl rfl, .inr ⟨_, vs.toArray, _, hk, rfl, rfl, rfl, by rw [List.size_toArray, hi.length]; exact hl, by simpa using rv⟩, fun b u z => absurd z (by intro q; cases q), fun b z => absurd rfl z⟩
  | none =>
    have at_ : ∀ b, (if b = a then some (HO.frz { cls := .type "list", data := .seq vs.toArray } (.lst (ns.map V.int))) else none) ≠ none → b = a := fun b z => by
      by_cases c : b = a
      · exact c
      · rw [if_neg c] at z; exact absurd rfl z
    refine ⟨fun b => if b = a then some (.frz { cls := .type "list", data := .seq vs.toArray } (.lst (ns.map V.int))) else none, fun b => ?_, .inl (.inr ⟨{ cls := .type "list", data := .seq vs.toArray }, if_pos rfl⟩), fun b u z => ?_, fun b z => ⟨at_ b z, rfl⟩⟩
    · by_cases c : b = a
      · exact .inr ⟨_, _, if_pos c⟩
      · exact .inl (if_neg c)
    · obtain rfl := at_ b (fun q => by have q2 := q.symm.trans z; cases q2)
      have z := (if_pos rfl).symm.trans z
      cases z
      exact ⟨ha, by rw [List.length_map]; exact hl, vs, _, rv, ha⟩
/-- what k_head leaves, from such a promise -/
theorem walk_g {l : PySem.W.OpenLaw} {n k : Nat} {q : Program} {loose : List Str} {XP : (Str → Option Value) → Heap → Prop} {YP : World → Heap → Prop} {d : DefRec} {K : Params → PySem.W.Frag} {sp : World → Sp} {x : Str}
    (hn : l.most = some n) (hn2 : n ≤ sizeLine) (hdf : d.params.defaults = []) (hr : RoomG k callerA)
    (hY : ∀ (w : World) (h : Heap), YP w h → (K w.params).In h)
    (F : ∀ (w : World) (mg : Str → Option Value) (fa : Addr) (h : Heap), (K w.params).In h → h.Ns mainGlobals mg → mg d.name = some (.ref fa) →
      ∃ fd : FuncData, (∀ (s : Shared) (u : Value), BindsTo s fd ⟨[u], []⟩ [(x, u)]) ∧
        ∀ base : Heap, (K w.params).In base → base.Ns mainGlobals mg → FnG l.prog w (K w.params) mg base k fa fd [x] (sp w))
    (hsp : ∀ (w : World) (H : Hp) (a : Addr) (ns : List Int), ns.length ≤ n → L2.Only H → SqL (K w.params) H a (ns.map V.int) → sp w [.ref a] H (fun v _ => v = .bl true) fun _ _ _ => False) :
    PySem.W.WalkO q loose XP YP l.row.toRowW d [] (fun f vs => PySem.call f vs) :=
  Att.attach_call hn hdf fun w s₀ s₁ mg mb fa o pm cd doc a vs ns G Y ho hd hcd hmg hobj hints hlen hg => by
    have KX := hY w _ Y
    obtain ⟨fd, hb, hF⟩ := F w mg fa _ KX G.T.g hmg
    exact law_callG KX G.T.g G.T.b G.T.builtins G.T.nolimit hg hobj hints (Nat.le_trans hlen hn2) hr hF hb (fun H hO hS => hsp w H a ns hlen hO hS)

def kpl (l : List Bool) (i : Nat) : Bool := l.getD i false
theorem hu192 {A : Around} {k : Nat} (h : RoomG k A) : A.units + 192 < cLine := by have := h.rm.un; omega
def GlobD (K : PySem.W.Frag) (mg : Str → Option Value) (x : Str) (d : D) : Prop := ∃ u v, mg x = some u ∧ RelV v u ∧ ∀ F, RepD K F v d
theorem de_g {X : Cx} {x : Str} {d : D} {pos : Pos} (hg : Gl X x) (h : GlobD X.K X.mg x d) (hd : (x == ("__debug__" : Str)) = false := by decide) : DE X (eC d) (.Name x pos) := by
  obtain ⟨u, v, hm, r, hr⟩ := h
  exact de_c (pe_glob hg hm r hd) hr
theorem globD_int {K : PySem.W.Frag} {mg : Str → Option Value} {x : Str} {i : Int} {t : Tok} (h : mg x = some (.int i t)) : GlobD K mg x (.int i) := ⟨_, .int i, h, ⟨t, rfl⟩, fun _ => .int i⟩
theorem globD_str {K : PySem.W.Frag} {mg : Str → Option Value} {x : Str} {i : Str} {t : Tok} (h : mg x = some (.str i t)) : GlobD K mg x (.str i) := ⟨_, .str i, h, ⟨t, rfl⟩, fun _ => .str i⟩
def flatIs : List Value → List D → Bool
  | [], [] => true
  | .int i _ :: vs, .int j :: ds => decide (i = j) && flatIs vs ds
  | .str i _ :: vs, .str j :: ds => decide (i = j) && flatIs vs ds
  | _, _ => false
theorem flatIs_ok {K : PySem.W.Frag} {F : Hp} : ∀ {us : List Value} {ds : List D}, flatIs us ds = true → ∃ vs, Vals vs us ∧ RepDs K F vs ds
  | [], [], _ => ⟨[], .nil, .nil⟩
  | .int i t :: us, .int j :: ds, h => by
    have h : (decide (i = j) && flatIs us ds) = true := h
    rw [Bool.and_eq_true] at h
    obtain ⟨vs, h1, h2⟩ := flatIs_ok (K := K) (F := F) h.2
    have e := of_decide_eq_true h.1
    subst e
    exact ⟨.int i :: vs, .cons ⟨t, rfl⟩ h1, .cons (.int i) h2⟩
  | .str i t :: us, .str j :: ds, h => by
    have h : (decide (i = j) && flatIs us ds) = true := h
    rw [Bool.and_eq_true] at h
    obtain ⟨vs, h1, h2⟩ := flatIs_ok (K := K) (F := F) h.2
    have e := of_decide_eq_true h.1
    subst e
    exact ⟨.str i :: vs, .cons ⟨t, rfl⟩ h1, .cons (.str i) h2⟩
theorem flatIs_len : ∀ {us : List Value} {ds : List D}, flatIs us ds = true → us.length = ds.length
  | [], [], _ => rfl
  | .int i t :: us, .int j :: ds, h => by
    have h : (decide (i = j) && flatIs us ds) = true := h
    rw [Bool.and_eq_true] at h
    rw [List.length_cons, List.length_cons, flatIs_len h.2]
  | .str i t :: us, .str j :: ds, h => by
    have h : (decide (i = j) && flatIs us ds) = true := h
    rw [Bool.and_eq_true] at h
    rw [List.length_cons, List.length_cons, flatIs_len h.2]
theorem globD_tup {K : PySem.W.Frag} {mg : Str → Option Value} {x : Str} {a : Addr} {o : Obj} {its : Array Value} {n : Nat} {ds : List D} (h : mg x = some (.ref a)) (hl : K.lookup a = some o) (hc : o.cls = .type "tuple") (hd : o.data = .seq its n)
    (hf : flatIs its.toList ds = true) (hz : ds.length ≤ 1000 := by decide) : GlobD K mg x (.tup ds) := by
  refine ⟨_, .ref a, h, rfl, fun F => ?_⟩
  obtain ⟨vs, h1, h2⟩ := flatIs_ok (K := K) (F := F) hf
  have hz2 : its.size ≤ sizeLine := by rw [← Array.length_toList, flatIs_len hf, sizeLine_eq]; omega
  exact .tup (.inr ⟨o, its, n, hl, hc, hd, hz2, h1⟩) h2
theorem fnD_zero {P : Program} {w : World} {K : PySem.W.Frag} {mg : Str → Option Value} {base : Heap} {x qual : Str} {st : Stmt} {f : Addr} {fd : FuncData} {ps : List Str} (F : Fun K x qual st f fd) (m : mg x = some (.ref f)) (b : Binds K fd ps []) :
    FnD P w K mg base 0 x ps.length (fun _ => .no) := by
  refine ⟨f, fd, ps, rfl, ⟨fun vs H Q E ⟨_, _, _, _, _, h, _⟩ => h, fun A outer s H args us vs Q E _ _ _ _ h => ?_⟩, m, F.kp, b⟩
  obtain ⟨_, _, _, _, _, _, _, _, _, h, _⟩ := h
  cases h

@[simp] theorem at_nil (i : Nat) : SS.at [] i = none := (rfl)
@[simp] theorem at_zero (m : Option M) (S : SS) : SS.at (m :: S) 0 = m := (rfl)
@[simp] theorem at_succ (m : Option M) (S : SS) (i : Nat) : SS.at (m :: S) (i + 1) = SS.at S i := (rfl)
@[simp] theorem get_d (x : D) (S : SS) : Ov.get (.d x) S = some x := (rfl)
@[simp] theorem get_j (i : Nat) (S : SS) : Ov.get (.j i) S = (S.at i).map M.toD := (rfl)
@[simp] theorem bind_ok {α β : Type} (a : α) (S : SS) (g : α → SS → R β) : R.bind (.ok a S) g = g a S := (rfl)
@[simp] theorem bind_ex {α β : Type} (a : Exn) (S : SS) (g : α → SS → R β) : R.bind (.ex a S) g = .ex a S := (rfl)
@[simp] theorem bind_no {α β : Type} (g : α → SS → R β) : R.bind .no g = .no := (rfl)
@[simp] theorem toD_d (x : D) : M.toD (.d x) = x := (rfl)
@[simp] theorem toD_lst (x : List D) : M.toD (.lst x) = .lst x := (rfl)
@[simp] theorem toD_dk (x : List (Key × D)) : M.toD (.dk x) = .dk x := (rfl)
@[simp] theorem own_d (x : D) : M.own (.d x) = false := (rfl)
@[simp] theorem own_lst (x : List D) : M.own (.lst x) = true := (rfl)
@[simp] theorem own_dk (x : List (Key × D)) : M.own (.dk x) = true := (rfl)
@[simp] theorem isL_lst (x : List D) : isL (some (.lst x)) = true := (rfl)
@[simp] theorem asB_bl (b : Bool) (S : SS) : asB (.d (.bl b)) S = .ok b S := (rfl)

/-- the words of expressions and statements, to be reckoned -/
@[simp] theorem eN_ap (i : Nat) (S : SS) : eN i S = match S.at i with | some _ => .ok (.j i) S | none => .no := (rfl)
@[simp] theorem eC_ap (d : D) (S : SS) : eC d S = .ok (.d d) S := (rfl)
@[simp] theorem eM_ap (f : FM) (S : SS) : eM f S = (f S).bind fun m S => .ok (.d m.toD) S := (rfl)
@[simp] theorem force_d (x : D) (S : SS) : force (.d x) S = some (x, S) := (rfl)
@[simp] theorem force_j (i : Nat) (S : SS) : force (.j i) S = match S.at i with | some m => some (m.toD, S.set i (some (.d m.toD))) | none => none := (rfl)
@[simp] theorem mE_ap (f : FE) (S : SS) : mE f S = (f S).bind fun o S => match force o S with | some (d, S') => .ok (.d d) S' | none => .no := (rfl)
@[simp] theorem onD_ap (g : D → D → Option M) (a b : Ov) (S : SS) : onD g a b S = match a.get S, b.get S with | some x, some y => (match g x y with | some m => .ok m S | none => .no) | _, _ => .no := (rfl)
@[simp] theorem mBin_ap (g : D → D → Option M) (fa fb : FE) (S : SS) : mBin g fa fb S = (fa S).bind fun a S => (fb S).bind fun b S => onD g a b S := (rfl)
@[simp] theorem tM_ap (f : FM) (S : SS) : tM f S = (f S).bind asB := (rfl)
@[simp] theorem tAnd_ap (f g : FB) (S : SS) : tAnd' f g S = (f S).bind fun c S => if c = true then g S else .ok false S := (rfl)
@[simp] theorem tOr_ap (f g : FB) (S : SS) : tOr' f g S = (f S).bind fun c S => if c = true then .ok true S else g S := (rfl)
@[simp] theorem tNot_ap (f : FB) (S : SS) : tNot' f S = (f S).bind fun c S => .ok (!c) S := (rfl)
@[simp] theorem vAnd_ap (f g : FM) (S : SS) : vAnd f g S = (f S).bind fun m S => (asB m S).bind fun c S => if c = true then g S else .ok (.d (.bl false)) S := (rfl)
@[simp] theorem vOr_ap (f g : FM) (S : SS) : vOr f g S = (f S).bind fun m S => (asB m S).bind fun c S => if c = true then .ok (.d (.bl true)) S else g S := (rfl)
@[simp] theorem vNot_ap (f : FM) (S : SS) : vNot f S = (f S).bind fun m S => (asB m S).bind fun c S => .ok (.d (.bl (!c))) S := (rfl)
@[simp] theorem mIf_ap (t : FB) (f g : FM) (S : SS) : mIf t f g S = (t S).bind fun c S => if c = true then f S else g S := (rfl)
@[simp] theorem aNil_ap (S : SS) : aNil S = .ok [] S := (rfl)
@[simp] theorem aCons_ap (f : FE) (g : FA) (S : SS) : aCons f g S = (f S).bind fun o S => (g S).bind fun os S => .ok (o :: os) S := (rfl)
@[simp] theorem forceAll_nil (S : SS) : forceAll [] S = some ([], S) := (rfl)
@[simp] theorem forceAll_cons (o : Ov) (os : List Ov) (S : SS) : forceAll (o :: os) S = match force o S with | some (d, S1) => (match forceAll os S1 with | some (ds, S2) => some (d :: ds, S2) | none => none) | none => none := (rfl)
@[simp] theorem dispF_ap (mk : List D → M) (os : List Ov) (S : SS) : dispF mk os S = match forceAll os S with | some (ds, S') => if ds.length ≤ 16777216 then .ok (mk ds) S' else .no | none => .no := (rfl)
@[simp] theorem mTup_ap (f : FA) (S : SS) : mTup f S = (f S).bind (dispF fun ds => .d (.tup ds)) := (rfl)
@[simp] theorem mLst_ap (f : FA) (S : SS) : mLst f S = (f S).bind (dispF fun ds => .lst ds) := (rfl)
@[simp] theorem mNeg_ap (f : FE) (S : SS) : mNeg f S = (f S).bind fun o S => match o.get S with | some (.int i) => .ok (.d (.int (-i))) S | _ => .no := (rfl)
@[simp] theorem mChain_ap (g g' : D → D → Option M) (fa fb fc : FE) (S : SS) : mChain g g' fa fb fc S = (fa S).bind fun a S => (fb S).bind fun b S => (onD g a b S).bind fun m S => (asB m S).bind fun k S =>
  if k = true then (fc S).bind fun c S => onD g' b c S else .ok (.d (.bl false)) S := (rfl)
@[simp] theorem pNo_ap (S : SS) : pNo S = .ok none S := (rfl)
@[simp] theorem pIx_ap (f : FE) (S : SS) : pIx f S = (f S).bind fun o S => match o.get S with | some (.int i) => .ok (some i) S | _ => .no := (rfl)
@[simp] theorem mSl_ap (f : FE) (l h : FP) (S : SS) : mSl f l h S = (f S).bind fun o S => (l S).bind fun lo S => (h S).bind fun hi S => match o.get S with
  | some x => (match sliceD lo hi x with | some m => .ok m S | none => .no)
  | none => .no := (rfl)
@[simp] theorem mRev_ap (f : FE) (S : SS) : mRev f S = (f S).bind fun o S => match o.get S with | some (.lst xs) => .ok (.lst xs.reverse) S | some (.tup xs) => .ok (.d (.tup xs.reverse)) S | _ => .no := (rfl)
@[simp] theorem getAll_nil (S : SS) : getAll [] S = some [] := (rfl)
@[simp] theorem getAll_cons (o : Ov) (os : List Ov) (S : SS) : getAll (o :: os) S = match o.get S with | some d => (match getAll os S with | some ds => some (d :: ds) | none => none) | none => none := (rfl)
@[simp] theorem mBlt_ap (g : List D → Option M) (fas : FA) (S : SS) : mBlt g fas S = (fas S).bind fun os S => match getAll os S with | some ds => (match g ds with | some m => .ok m S | none => .no) | none => .no := (rfl)
@[simp] theorem on1_ap (g : D → Option M) (x : D) : on1 g [x] = g x := (rfl)
@[simp] theorem on2_ap (g : D → D → Option M) (x y : D) : on2 g [x, y] = g x y := (rfl)
@[simp] theorem lend_nil (S : SS) : lend [] S = some ([], S) := (rfl)
@[simp] theorem lend_d (x : D) (os : List Ov) (S : SS) : lend (.d x :: os) S = match lend os S with | some (ms, S') => some (.d x :: ms, S') | none => none := (rfl)
@[simp] theorem lend_j (i : Nat) (os : List Ov) (S : SS) : lend (.j i :: os) S = match S.at i with
    | some m => (match lend os (if m.own then S.set i none else S) with | some (ms, S') => some (m :: ms, S') | none => none)
    | none => none := (rfl)
@[simp] theorem back_nil (ms : List M) (fs : List (Option M)) (S : SS) : back [] ms fs S = S := by unfold back; rfl
@[simp] theorem back_d (x : D) (os : List Ov) (m : M) (ms : List M) (f : Option M) (fs : List (Option M)) (S : SS) : back (.d x :: os) (m :: ms) (f :: fs) S = back os ms fs S := (rfl)
@[simp] theorem back_j (i : Nat) (os : List Ov) (m : M) (ms : List M) (f : Option M) (fs : List (Option M)) (S : SS) : back (.j i :: os) (m :: ms) (f :: fs) S = back os ms fs (if m.own then S.set i f else S) := (rfl)
@[simp] theorem sNil_ap (S : SS) : sNil S = .ok .nx S := (rfl)
@[simp] theorem sSeq_ap (f g : FS) (S : SS) : sSeq f g S = (f S).bind fun fl S => match fl with | .nx => g S | .rt m => .ok (.rt m) S | .bk => .ok .bk S | .ct => .ok .ct S := (rfl)
@[simp] theorem sBrk_ap (S : SS) : sBrk S = .ok .bk S := (rfl)
@[simp] theorem sCnt_ap (S : SS) : sCnt S = .ok .ct S := (rfl)
@[simp] theorem sExpr_ap (f : FM) (S : SS) : sExpr f S = (f S).bind fun _ S => .ok .nx S := (rfl)
@[simp] theorem sRet_ap (f : FM) (S : SS) : sRet f S = (f S).bind fun m S => .ok (.rt m) S := (rfl)
@[simp] theorem sRetN_ap (S : SS) : sRetN S = .ok (.rt (.d .non)) S := (rfl)
@[simp] theorem sRetV_ap (i : Nat) (S : SS) : sRetV i S = match S.at i with | some m => .ok (.rt m) (S.set i none) | none => .no := (rfl)
@[simp] theorem sIf_ap (t : FB) (f g : FS) (S : SS) : sIf t f g S = (t S).bind fun c S => if c = true then f S else g S := (rfl)
@[simp] theorem sSet_ap (i : Nat) (f : FM) (S : SS) : sSet i f S = (f S).bind fun m S => .ok .nx (S.set i (some m)) := (rfl)
@[simp] theorem gN_ap (i : Nat) (d : D) (S : SS) : gN i d S = some (S.set i (some (.d d))) := (rfl)
@[simp] theorem gsNil_ap (S : SS) : gsNil [] S = some S := (rfl)
@[simp] theorem gsCons_ap (g : FG) (gs : FGs) (d : D) (ds : List D) (S : SS) : gsCons g gs (d :: ds) S = match g d S with | some S1 => gs ds S1 | none => none := (rfl)
@[simp] theorem gT_ap (n : Nat) (gs : FGs) (ds : List D) (S : SS) : gT n gs (.tup ds) S = if ds.length = n then gs ds S else none := (rfl)
@[simp] theorem sAsg_ap (f : FE) (g : FG) (S : SS) : sAsg f g S = (f S).bind fun o S => match force o S with
  | some (d, S1) => (match g d S1 with | some S2 => .ok .nx S2 | none => .no)
  | none => .no := (rfl)
@[simp] theorem iSeq_ap (f : FE) (S : SS) : iSeq f S = (f S).bind fun o S => match force o S with
  | some (.lst ds, S1) => .ok ds S1
  | some (.tup ds, S1) => .ok ds S1
  | some (.str x, S1) => .ok (strSeq x) S1
  | _ => .no := (rfl)
@[simp] theorem iZp_ap (f : FA) (S : SS) : iZp f S = (f S).bind fun os S => match forceAll os S with
  | some ([.lst xs, .lst ys], S2) => .ok (zipD xs ys) S2
  | some ([.tup xs, .tup ys], S2) => .ok (zipD xs ys) S2
  | _ => .no := (rfl)
@[simp] theorem iEn_ap (f : FA) (S : SS) : iEn f S = (f S).bind fun os S => match forceAll os S with
  | some ([.lst xs], S2) => .ok (enumD xs) S2
  | _ => .no := (rfl)
@[simp] theorem eNo_ap {α : Type} (S : SS) : (eNo S : R α) = .no := (rfl)
@[simp] theorem sNo_ap (S : SS) : sNo S = .no := (rfl)
@[simp] theorem iRng1_ap (f : FE) (S : SS) : iRng1 f S = (f S).bind fun o S => match o.get S with
  | some (.int j) => if -4611686018427387904 ≤ j ∧ j < 4611686018427387904 then .ok (rangeD 0 j.toNat) S else .no
  | _ => .no := (rfl)
@[simp] theorem iRng2_ap (f g : FE) (S : SS) : iRng2 f g S = (f S).bind fun o S => (g S).bind fun p S => match o.get S, p.get S with
  | some (.int i), some (.int j) => if (-4611686018427387904 ≤ i ∧ i < 4611686018427387904) ∧ -4611686018427387904 ≤ j ∧ j < 4611686018427387904 then .ok (rangeD i (j - i).toNat) S else .no
  | _, _ => .no := (rfl)
@[simp] theorem forL_nil (g : FG) (b : FS) (S : SS) : forL g b [] S = .ok .nx S := (rfl)
theorem forL_cons (g : FG) (b : FS) (d : D) (ds : List D) (S : SS) : forL g b (d :: ds) S = match g d S with
    | none => .no
    | some S1 => (b S1).bind fun fl S2 => match fl with
      | .nx => forL g b ds S2
      | .ct => forL g b ds S2
      | .bk => .ok .nx S2
      | .rt m => .ok (.rt m) S2 := (rfl)
@[simp] theorem sFor_ap (i : FI) (g : FG) (b : FS) (S : SS) : sFor i g b S = (i S).bind fun ds S => forL g b ds S := (rfl)
@[simp] theorem isLq_ap (j : Nat) (S : SS) : isLq j S = if isL (S.at j) = true then .ok () S else .no := (rfl)
@[simp] theorem mApp_ap (j : Nat) (f : FE) (S : SS) : mApp j f S = (isLq j S).bind fun _ S => (f S).bind fun o S => match force o S with
  | some (x, S1) => (match S1.at j with
    | some (.lst xs) => if xs.length < 16777216 then .ok (.d .non) (S1.set j (some (.lst (xs ++ [x])))) else .no
    | _ => .no)
  | none => .no := (rfl)
@[simp] theorem seqD_l (xs : List D) : seqD (.lst xs) = some xs := (rfl)
@[simp] theorem seqD_t (xs : List D) : seqD (.tup xs) = some xs := (rfl)
@[simp] theorem mExt_ap (j : Nat) (f : FE) (S : SS) : mExt j f S = (isLq j S).bind fun _ S => (f S).bind fun o S1 => match (o.get S1).bind seqD with
  | some ys => (match S1.at j with
    | some (.lst xs) => if xs.length + ys.length ≤ line then .ok (.d .non) (S1.set j (some (.lst (xs ++ ys)))) else .no
    | _ => .no)
  | none => .no := (rfl)
@[simp] theorem mPop_ap (j : Nat) (S : SS) : mPop j S = match S.at j with
  | some (.lst xs) => (match xs.getLast? with
    | some x => .ok (.d x) (S.set j (some (.lst xs.dropLast)))
    | none => .no)
  | _ => .no := (rfl)
@[simp] theorem putIx_ap (j : Nat) (k : D) (x : D) (S : SS) : putIx j k x S = match k, S.at j with
  | .int k, some (.lst xs) => (match ixN xs.length k with
    | some n => some (S.set j (some (.lst (xs.set n x))))
    | none => none)
  | _, _ => none := (rfl)
@[simp] theorem sSetIx_ap (j : Nat) (f fi : FE) (S : SS) : sSetIx j f fi S = (f S).bind fun o S => match force o S with
  | some (x, S1) => (isLq j S1).bind fun _ S1 => (fi S1).bind fun i S2 => (match i.get S2 with
    | some k => (match putIx j k x S2 with
      | some S3 => .ok .nx S3
      | none => .no)
    | none => .no)
  | none => .no := (rfl)
@[simp] theorem sAug_ap (i : Nat) (g : D → D → Option M) (f : FE) (S : SS) : sAug i g f S = match S.at i with
  | some (.d x) => (f S).bind fun o S => (match o.get S with
    | some y => (match g x y with
      | some (.d z) => .ok .nx (S.set i (some (.d z)))
      | _ => .no)
    | none => .no)
  | _ => .no := (rfl)
@[simp] theorem sAugIx_ap (j : Nat) (g : D → D → Option M) (fi f : FE) (S : SS) : sAugIx j g fi f S = (isLq j S).bind fun _ S => (fi S).bind fun oi S => match oi.get S, S.at j with
  | some (.int k), some (.lst xs) => (match atI xs k with
    | some old => (f S).bind fun o S => (match o.get S with
      | some y => (match g old y with
        | some (.d z) => (match putIx j (.int k) z S with
          | some S3 => .ok .nx S3
          | none => .no)
        | _ => .no)
      | none => .no)
    | none => .no)
  | _, _ => .no := (rfl)
@[simp] theorem addD_ii (i j : Int) : addD (.int i) (.int j) = some (.d (.int (i + j))) := (rfl)
@[simp] theorem addD_ss (x y : Str) : addD (.str x) (.str y) = if x.length + y.length ≤ 16777216 then some (.d (.str (x ++ y))) else none := (rfl)
@[simp] theorem addD_ll (x y : List D) : addD (.lst x) (.lst y) = if x.length + y.length ≤ 16777216 then some (.lst (x ++ y)) else none := (rfl)
@[simp] theorem addD_tt (x y : List D) : addD (.tup x) (.tup y) = if x.length + y.length ≤ 16777216 then some (.d (.tup (x ++ y))) else none := (rfl)
@[simp] theorem iaddD_ii (i j : Int) : iaddD (.int i) (.int j) = some (.d (.int (i + j))) := (rfl)
@[simp] theorem subD_ii (i j : Int) : subD (.int i) (.int j) = some (.d (.int (i - j))) := (rfl)
@[simp] theorem mulD_ii (i j : Int) : mulD (.int i) (.int j) = if mulOk i j = true then some (.d (.int (i * j))) else none := (rfl)
@[simp] theorem fdivD_ii (i j : Int) : fdivD (.int i) (.int j) = if divOk j = true then some (.d (.int (i.fdiv j))) else none := (rfl)
@[simp] theorem modD_ii (i j : Int) : modD (.int i) (.int j) = if j ≠ 0 then some (.d (.int (i.fmod j))) else none := (rfl)
@[simp] theorem powD_ii (i j : Int) : powD (.int i) (.int j) = if 0 ≤ j ∧ j ≤ 1000000 ∧ i.natAbs < 2 ^ 64 then some (.d (.int (i ^ j.toNat))) else none := (rfl)
@[simp] theorem ltD_ii (i j : Int) : ltD (.int i) (.int j) = some (.d (.bl (decide (i < j)))) := (rfl)
@[simp] theorem leD_ii (i j : Int) : leD (.int i) (.int j) = some (.d (.bl (decide (i ≤ j)))) := (rfl)
@[simp] theorem gtD_ii (i j : Int) : gtD (.int i) (.int j) = some (.d (.bl (decide (j < i)))) := (rfl)
@[simp] theorem geD_ii (i j : Int) : geD (.int i) (.int j) = some (.d (.bl (decide (j ≤ i)))) := (rfl)
@[simp] theorem eqD_ii (i j : Int) : eqD (.int i) (.int j) = some (.d (.bl (i == j))) := (rfl)
@[simp] theorem eqD_ss (i j : Str) : eqD (.str i) (.str j) = some (.d (.bl (i == j))) := (rfl)
@[simp] theorem eqD_bb (i j : Bool) : eqD (.bl i) (.bl j) = some (.d (.bl (i == j))) := (rfl)
@[simp] theorem neD_ii (i j : Int) : neD (.int i) (.int j) = some (.d (.bl (!(i == j)))) := (rfl)
@[simp] theorem neD_ss (i j : Str) : neD (.str i) (.str j) = some (.d (.bl (!(i == j)))) := (rfl)
@[simp] theorem ixD_l (xs : List D) (i : Int) : ixD (.lst xs) (.int i) = (atI xs i).map .d := (rfl)
@[simp] theorem ixD_t (xs : List D) (i : Int) : ixD (.tup xs) (.int i) = (atI xs i).map .d := (rfl)
@[simp] theorem lenD_l (xs : List D) : lenD (.lst xs) = some (.d (.int xs.length)) := (rfl)
@[simp] theorem lenD_t (xs : List D) : lenD (.tup xs) = some (.d (.int xs.length)) := (rfl)
@[simp] theorem lenD_c (xs : List D) : lenD (.scr xs) = some (.d (.int xs.length)) := (rfl)
theorem atI_nn {α : Type} (xs : List α) (i : Nat) : atI xs (i : Int) = xs[i]? := by
  unfold atI ixN
  rw [if_pos (by omega)]
  by_cases h : i < xs.length
  · rw [if_pos (by omega)]; simp
  · rw [if_neg (by omega)]; simp; omega
@[simp] theorem atI_2 {α : Type} (xs : List α) : atI xs (2 : Int) = xs[(2 : Nat)]? := atI_nn xs 2
@[simp] theorem atI_3 {α : Type} (xs : List α) : atI xs (3 : Int) = xs[(3 : Nat)]? := atI_nn xs 3
@[simp] theorem atI_4 {α : Type} (xs : List α) : atI xs (4 : Int) = xs[(4 : Nat)]? := atI_nn xs 4
@[simp] theorem atI_5 {α : Type} (xs : List α) : atI xs (5 : Int) = xs[(5 : Nat)]? := atI_nn xs 5
@[simp] theorem atI_6 {α : Type} (xs : List α) : atI xs (6 : Int) = xs[(6 : Nat)]? := atI_nn xs 6
@[simp] theorem atI_7 {α : Type} (xs : List α) : atI xs (7 : Int) = xs[(7 : Nat)]? := atI_nn xs 7
@[simp] theorem atI_8 {α : Type} (xs : List α) : atI xs (8 : Int) = xs[(8 : Nat)]? := atI_nn xs 8
@[simp] theorem atI_m1 {α : Type} (xs : List α) : atI xs (-1 : Int) = xs.getLast? := by
  unfold atI ixN
  cases xs with
  | nil => rfl
  | cons x xs =>
    rw [if_neg (by omega), if_pos (by simp; omega), List.getLast?_eq_getElem?]
    show (x :: xs)[((-1 : Int) + ((x :: xs).length : Int)).toNat]? = _
    congr 1
    simp
    omega
@[simp] theorem atI_zero {α : Type} (xs : List α) : atI xs (0 : Int) = xs[(0 : Nat)]? := atI_nn xs 0
@[simp] theorem atI_one {α : Type} (xs : List α) : atI xs (1 : Int) = xs[(1 : Nat)]? := atI_nn xs 1
theorem ixN_nn (n : Nat) (i : Nat) : ixN n (i : Int) = if i < n then some i else none := by
  unfold ixN
  rw [if_pos (by omega)]
  by_cases h : i < n
  · rw [if_pos (by omega), if_pos h]; simp
  · rw [if_neg (by omega), if_neg h]
@[simp] theorem ixN_2 (n : Nat) : ixN n (2 : Int) = if 2 < n then some 2 else none := ixN_nn n 2
@[simp] theorem ixN_3 (n : Nat) : ixN n (3 : Int) = if 3 < n then some 3 else none := ixN_nn n 3
@[simp] theorem ixN_4 (n : Nat) : ixN n (4 : Int) = if 4 < n then some 4 else none := ixN_nn n 4
@[simp] theorem ixN_5 (n : Nat) : ixN n (5 : Int) = if 5 < n then some 5 else none := ixN_nn n 5
@[simp] theorem ixN_6 (n : Nat) : ixN n (6 : Int) = if 6 < n then some 6 else none := ixN_nn n 6
@[simp] theorem ixN_7 (n : Nat) : ixN n (7 : Int) = if 7 < n then some 7 else none := ixN_nn n 7
@[simp] theorem ixN_8 (n : Nat) : ixN n (8 : Int) = if 8 < n then some 8 else none := ixN_nn n 8
@[simp] theorem ixN_zero (n : Nat) : ixN n (0 : Int) = if 0 < n then some 0 else none := ixN_nn n 0
@[simp] theorem ixN_one (n : Nat) : ixN n (1 : Int) = if 1 < n then some 1 else none := ixN_nn n 1
@[simp] theorem finOf_zero (kp : Nat → Bool) (S : SS) (i : Nat) : finOf kp S i 0 = [] := (rfl)
@[simp] theorem finOf_succ (kp : Nat → Bool) (S : SS) (i n : Nat) : finOf kp S i (n + 1) = (if kp i then S.at i else none) :: finOf kp S (i + 1) n := (rfl)
@[simp] theorem kpl_zero (b : Bool) (l : List Bool) : kpl (b :: l) 0 = b := (rfl)
@[simp] theorem kpl_succ (b : Bool) (l : List Bool) (i : Nat) : kpl (b :: l) (i + 1) = kpl l i := (rfl)
@[simp] theorem run_ap (np nl : Nat) (kp : Nat → Bool) (body : FS) (ms : List M) : runFn np nl kp body ms = if ms.length = np then (match body (ms.map some ++ List.replicate (nl - np) none) with
  | .ok (.rt m) S => .ok m (finOf kp S 0 np)
  | .ok .nx S => .ok (.d .non) (finOf kp S 0 np)
  | .ex x S => .ex x (finOf kp S 0 np)
  | _ => .no) else .no := (rfl)
theorem mulOk_r {i j : Int} (h : -18446744073709551616 < j ∧ j < 18446744073709551616) : mulOk i j = true := by unfold mulOk; simp; omega
theorem mulOk_l {i j : Int} (h : -18446744073709551616 < i ∧ i < 18446744073709551616) : mulOk i j = true := by unfold mulOk; simp; omega
theorem mulOk_modl {x j k : Int} (h : 0 < k ∧ k < 18446744073709551616) : mulOk (x % k) j = true := mulOk_l (by have := Int.emod_nonneg x (show k ≠ 0 by omega); have := Int.emod_lt_of_pos x h.1; omega)
theorem divOk_of {j : Int} (h0 : 0 < j) (h : j < 340282366920938463463374607431768211456) : divOk j = true := by unfold divOk; simp; omega
theorem eN_at {i : Nat} {S : SS} {m : M} (h : S.at i = some m) : eN i S = .ok (.j i) S := by unfold eN; rw [h]

/-! ### comprehensions -/
theorem wipeS_idem (S : SS) : ∀ vs : List Nat, ∀ u ∈ vs, (wipeS S vs).set u none = wipeS S vs := by
  intro vs
  induction vs with
  | nil => intro u h; cases h
  | cons v vs ih =>
    intro u h
    show ((wipeS S vs).set v none).set u none = (wipeS S vs).set v none
    by_cases e : u = v
    · subst e; rw [List.set_set]
    · rw [List.set_comm _ _ (fun z => e z.symm)]
      rw [ih u (by rcases List.mem_cons.mp h with z | z; exact absurd z e; exact z)]
theorem lcL_map {own : List Nat} {g : FG} {t : FB} {fe : FE} (p : D → Bool) (f : D → D) (S0 : SS) : ∀ (ds : List D) (S : SS) (acc : List D), wipeS S own = S0 →
    (∀ d ∈ ds, ∃ S1 S2, g d S0 = some S1 ∧ t S1 = .ok (p d) S2 ∧ (p d = false → wipeS S2 own = S0) ∧ (p d = true → ∃ o S3 S4, fe S2 = .ok o S3 ∧ force o S3 = some (f d, S4) ∧ wipeS S4 own = S0)) →
    acc.length + ds.length ≤ line → ∃ S', lcL own g t fe ds S acc = .ok (acc ++ (ds.filter p).map f) S' ∧ wipeS S' own = S0
  | [], S, acc, hS, _, _ => ⟨S, by simp [lcL], hS⟩
  | d :: ds, S, acc, hS, h, hl => by
    obtain ⟨S1, S2, h1, h2, h3, h4⟩ := h d (List.mem_cons_self ..)
    have hr := fun x hx => h x (List.mem_cons_of_mem _ hx)
    simp only [List.length_cons] at hl
    show ∃ S', (match g d (wipeS S own) with
      | none => R.no
      | some S1 => (t S1).bind fun b S2 => if b = true then (fe S2).bind fun o S3 => (match force o S3 with
          | some (x, S4) => if acc.length < line then lcL own g t fe ds S4 (acc ++ [x]) else .no
          | none => .no) else lcL own g t fe ds S2 acc) = _ ∧ wipeS S' own = S0
    rw [hS, h1]
    dsimp only
    rw [h2, bind_ok]
    cases hp : p d with
    | false =>
      rw [if_neg (by decide), List.filter_cons_of_neg (by rw [hp]; decide)]
      exact lcL_map p f S0 ds S2 acc (h3 hp) hr (by omega)
    | true =>
      obtain ⟨o, S3, S4, h5, h6, h7⟩ := h4 hp
      rw [if_pos rfl, h5, bind_ok, h6]
      dsimp only
      rw [if_pos (by omega), List.filter_cons_of_pos hp, List.map_cons]
      obtain ⟨S', e1, e2⟩ := lcL_map p f S0 ds S4 (acc ++ [f d]) h7 hr (by simp; omega)
      exact ⟨S', by rw [e1]; simp, e2⟩
theorem restS_wipe (S1 S2 : SS) : ∀ vs : List Nat, restS S1 (wipeS S2 vs) vs = restS S1 S2 vs := by
  intro vs
  have key : ∀ (vs : List Nat) (S S' : SS), S.length = S'.length → (∀ j, j ∉ vs → S[j]? = S'[j]?) → restS S1 S vs = restS S1 S' vs := by
    intro vs
    induction vs with
    | nil =>
      intro S S' _ h
      exact List.ext_getElem? fun j => h j (by simp)
    | cons v vs ih =>
      intro S S' hl h
      show (restS S1 S vs).set v _ = (restS S1 S' vs).set v _
      have e1 : ∀ (T : SS), (restS S1 T vs).set v (keepD (S1.at v)) = (restS S1 (T.set v none) vs).set v (keepD (S1.at v)) := by
        intro T
        apply List.ext_getElem?
        intro j
        by_cases hj : v = j
        · subst hj
          by_cases hlt : v < T.length
          · rw [List.getElem?_set_self (by rw [restS_len]; exact hlt), List.getElem?_set_self (by rw [restS_len, List.length_set]; exact hlt)]
          · rw [List.getElem?_eq_none (by rw [List.length_set, restS_len]; omega), List.getElem?_eq_none (by rw [List.length_set, restS_len, List.length_set]; omega)]
        · rw [List.getElem?_set_ne hj, List.getElem?_set_ne hj]
          have : ∀ (vs : List Nat) (T T' : SS), T.length = T'.length → T[j]? = T'[j]? → (restS S1 T vs)[j]? = (restS S1 T' vs)[j]? := by
            intro vs
            induction vs with
            | nil => intro T T' _ h; exact h
            | cons u vs ih2 =>
              intro T T' hl h
              show ((restS S1 T vs).set u _)[j]? = ((restS S1 T' vs).set u _)[j]?
              by_cases hu : u = j
              · subst hu
                by_cases hlt : u < T.length
                · rw [List.getElem?_set_self (by rw [restS_len]; exact hlt), List.getElem?_set_self (by rw [restS_len]; omega)]
                · rw [List.getElem?_eq_none (by rw [List.length_set, restS_len]; omega), List.getElem?_eq_none (by rw [List.length_set, restS_len]; omega)]
              · rw [List.getElem?_set_ne hu, List.getElem?_set_ne hu]
                exact ih2 T T' hl h
          exact this vs _ _ (by simp) (by rw [List.getElem?_set_ne hj])
      rw [e1 S, e1 S', ih (S.set v none) (S'.set v none) (by simp [hl]) (fun j hj => by
        by_cases hv : v = j
        · subst hv
          by_cases hlt : v < S.length
          · rw [List.getElem?_set_self hlt, List.getElem?_set_self (by omega)]
          · rw [List.getElem?_eq_none (by simp; omega), List.getElem?_eq_none (by simp; omega)]
        · rw [List.getElem?_set_ne hv, List.getElem?_set_ne hv]
          exact h j (by simp only [List.mem_cons, not_or]; exact ⟨fun e => hv e.symm, hj⟩))]
  refine key vs _ _ (wipeS_len _ _) fun j hj => ?_
  have : ∀ vs : List Nat, j ∉ vs → (wipeS S2 vs)[j]? = S2[j]? := by
    intro vs
    induction vs with
    | nil => intro _; rfl
    | cons v vs ih =>
      intro hj
      simp only [List.mem_cons, not_or] at hj
      show ((wipeS S2 vs).set v none)[j]? = _
      rw [List.getElem?_set_ne (fun e => hj.1 e.symm), ih hj.2]
  exact this vs hj
/-- a comprehension that leaves all else as it is -/
theorem mLc_map {own : List Nat} {fi : FI} {g : FG} {t : FB} {fe : FE} {S S1 : SS} {ds : List D} (p : D → Bool) (f : D → D) (h : fi S = .ok ds S1)
    (ht : ∀ d ∈ ds, ∃ S2 S3, g d (wipeS S1 own) = some S2 ∧ t S2 = .ok (p d) S3 ∧ (p d = false → wipeS S3 own = wipeS S1 own) ∧ (p d = true → ∃ o S4 S5, fe S3 = .ok o S4 ∧ force o S4 = some (f d, S5) ∧ wipeS S5 own = wipeS S1 own))
    (hl : ds.length ≤ line) : mLc own fi g t fe S = .ok (.lst ((ds.filter p).map f)) (restS S1 S1 own) := by
  unfold mLc
  rw [h, bind_ok]
  obtain ⟨S', e1, e2⟩ := lcL_map p f (wipeS S1 own) ds S1 [] rfl ht (by simpa using hl)
  rw [e1, bind_ok, List.nil_append]
  rw [← restS_wipe S1 S', e2, restS_wipe]

/-! ### numbers -/
theorem fmod_pos {a b : Int} (h : 0 < b) : a.fmod b = a % b := Int.fmod_eq_emod_of_nonneg a (by omega)
theorem fdiv_pos {a b : Int} (h : 0 < b) : a.fdiv b = a / b := Int.fdiv_eq_ediv_of_nonneg a (by omega)
theorem atI_ok {α : Type} {xs : List α} {i : Int} {x : α} (h0 : 0 ≤ i) (h : xs[i.toNat]? = some x) : atI xs i = some x := by
  have hl := (List.getElem?_eq_some_iff.mp h).1
  unfold atI ixN
  rw [if_pos h0, if_pos (by omega)]
  exact h

@[simp] theorem isi_ty (x : D) (n : String) : isiD x (.ty n) = if x.knd ≠ "" ∧ (n = "int" ∨ n = "bool" ∨ n = "str" ∨ n = "tuple" ∨ n = "list" ∨ n = "dict") then some (.d (.bl (isiK x.knd n))) else none := (rfl)
@[simp] theorem knd_int (i : Int) : D.knd (.int i) = "int" := (rfl)
@[simp] theorem knd_bl (i : Bool) : D.knd (.bl i) = "bool" := (rfl)
@[simp] theorem knd_str (i : Str) : D.knd (.str i) = "str" := (rfl)
@[simp] theorem knd_tup (i : List D) : D.knd (.tup i) = "tuple" := (rfl)
@[simp] theorem knd_lst (i : List D) : D.knd (.lst i) = "list" := (rfl)
@[simp] theorem eqD_ap (a b : D) : eqD a b = if eqOk a b = true then some (.d (.bl (D.eqb a b))) else none := (rfl)
@[simp] theorem neD_ap (a b : D) : neD a b = if eqOk a b = true then some (.d (.bl (!D.eqb a b))) else neD2 a b := (rfl)
@[simp] theorem neD2_c (x : D) (xs : List D) : neD2 (.lst (x :: xs)) (.lst []) = some (.d (.bl true)) := (rfl)
@[simp] theorem eqOk_ap (a b : D) : eqOk a b = (a.pl && b.pl && decide (min a.dep b.dep ≤ 190)) := (rfl)
@[simp] theorem pl_non : D.pl .non = true := (rfl)
@[simp] theorem pl_bl (b : Bool) : D.pl (.bl b) = true := (rfl)
@[simp] theorem pl_int (b : Int) : D.pl (.int b) = true := (rfl)
@[simp] theorem pl_str (b : Str) : D.pl (.str b) = true := (rfl)
@[simp] theorem pl_tup (b : List D) : D.pl (.tup b) = D.pls b := (rfl)
@[simp] theorem pl_lst (b : List D) : D.pl (.lst b) = D.pls b := (rfl)
@[simp] theorem pls_nil : D.pls [] = true := (rfl)
@[simp] theorem pls_cons (x : D) (xs : List D) : D.pls (x :: xs) = (D.pl x && D.pls xs) := (rfl)
@[simp] theorem dep_non : D.dep .non = 0 := (rfl)
@[simp] theorem dep_bl (b : Bool) : D.dep (.bl b) = 0 := (rfl)
@[simp] theorem dep_int (b : Int) : D.dep (.int b) = 0 := (rfl)
@[simp] theorem dep_str (b : Str) : D.dep (.str b) = 0 := (rfl)
@[simp] theorem dep_tup (b : List D) : D.dep (.tup b) = D.deps b + 1 := (rfl)
@[simp] theorem dep_lst (b : List D) : D.dep (.lst b) = D.deps b + 1 := (rfl)
@[simp] theorem deps_nil : D.deps [] = 0 := (rfl)
@[simp] theorem deps_cons (x : D) (xs : List D) : D.deps (x :: xs) = max (D.dep x) (D.deps xs) := (rfl)
@[simp] theorem eqb_ii (i j : Int) : D.eqb (.int i) (.int j) = (i == j) := (rfl)
@[simp] theorem eqb_ib (i : Int) (j : Bool) : D.eqb (.int i) (.bl j) = (i == (if j then 1 else 0)) := (rfl)
@[simp] theorem eqb_bi (i : Bool) (j : Int) : D.eqb (.bl i) (.int j) = ((if i then 1 else 0) == j) := (rfl)
@[simp] theorem eqb_bb (i j : Bool) : D.eqb (.bl i) (.bl j) = (i == j) := (rfl)
@[simp] theorem eqb_ss (i j : Str) : D.eqb (.str i) (.str j) = (i == j) := (rfl)
@[simp] theorem eqb_si (i : Str) (j : Int) : D.eqb (.str i) (.int j) = false := (rfl)
@[simp] theorem eqb_sb (i : Str) (j : Bool) : D.eqb (.str i) (.bl j) = false := (rfl)
@[simp] theorem eqb_is (i : Int) (j : Str) : D.eqb (.int i) (.str j) = false := (rfl)
@[simp] theorem eqb_tt (i j : List D) : D.eqb (.tup i) (.tup j) = D.eqbs i j := (rfl)
@[simp] theorem eqb_ll (i j : List D) : D.eqb (.lst i) (.lst j) = D.eqbs i j := (rfl)
@[simp] theorem eqb_tl (i j : List D) : D.eqb (.tup i) (.lst j) = false := (rfl)
@[simp] theorem eqb_lt (i j : List D) : D.eqb (.lst i) (.tup j) = false := (rfl)
@[simp] theorem eqb_ti (i : List D) (j : Int) : D.eqb (.tup i) (.int j) = false := (rfl)
@[simp] theorem eqb_it (i : List D) (j : Int) : D.eqb (.int j) (.tup i) = false := (rfl)
@[simp] theorem eqb_ts (i : List D) (j : Str) : D.eqb (.tup i) (.str j) = false := (rfl)
@[simp] theorem eqb_st (i : List D) (j : Str) : D.eqb (.str j) (.tup i) = false := (rfl)
@[simp] theorem eqb_nn : D.eqb .non .non = true := (rfl)
@[simp] theorem eqb_ni (j : Int) : D.eqb .non (.int j) = false := (rfl)
@[simp] theorem eqb_ns (j : Str) : D.eqb .non (.str j) = false := (rfl)
@[simp] theorem eqb_nt (j : List D) : D.eqb .non (.tup j) = false := (rfl)
@[simp] theorem eqb_in (j : Int) : D.eqb (.int j) .non = false := (rfl)
@[simp] theorem eqb_sn (j : Str) : D.eqb (.str j) .non = false := (rfl)
@[simp] theorem eqb_tn (j : List D) : D.eqb (.tup j) .non = false := (rfl)
@[simp] theorem eqbs_nn : D.eqbs [] [] = true := (rfl)
@[simp] theorem eqbs_nc (x : D) (xs : List D) : D.eqbs [] (x :: xs) = false := (rfl)
@[simp] theorem eqbs_cn (x : D) (xs : List D) : D.eqbs (x :: xs) [] = false := (rfl)
@[simp] theorem eqbs_cc (x y : D) (xs ys : List D) : D.eqbs (x :: xs) (y :: ys) = (D.eqb x y && D.eqbs xs ys) := (rfl)

/-! ### what a reckoning comes to -/
def R.wp0 {α : Type} (r : R α) (Q : α → SS → Prop) : Prop := match r with
  | .ok a S => Q a S
  | _ => False
def CR.wp0 (r : CR) (Q : M → List (Option M) → Prop) : Prop := match r with
  | .ok a S => Q a S
  | _ => False
@[irreducible] def R.wp {α : Type} (r : R α) (Q : α → SS → Prop) (_ : Ph Q := ⟨⟩) : Prop := R.wp0 r Q
@[irreducible] def CR.wp (r : CR) (Q : M → List (Option M) → Prop) (_ : Ph Q := ⟨⟩) : Prop := CR.wp0 r Q
theorem R.wp_eq {α : Type} (r : R α) (Q : α → SS → Prop) (p : Ph Q) : R.wp r Q p = R.wp0 r Q := by unfold R.wp; rfl
theorem CR.wp_eq (r : CR) (Q : M → List (Option M) → Prop) (p : Ph Q) : CR.wp r Q p = CR.wp0 r Q := by unfold CR.wp; rfl
@[simp] theorem wp_ok {α : Type} (a : α) (S : SS) (Q : α → SS → Prop) : R.wp (.ok a S) Q = Q a S := by rw [R.wp_eq]; rfl
@[simp] theorem wp_no {α : Type} (Q : α → SS → Prop) : R.wp .no Q = False := by rw [R.wp_eq]; rfl
@[simp] theorem wp_ex {α : Type} (x : Exn) (S : SS) (Q : α → SS → Prop) : R.wp (.ex x S) Q = False := by rw [R.wp_eq]; rfl
@[simp] theorem cwp_ok (a : M) (S : List (Option M)) (Q : M → List (Option M) → Prop) : CR.wp (.ok a S) Q = Q a S := by rw [CR.wp_eq]; rfl
@[simp] theorem cwp_no (Q : M → List (Option M) → Prop) : CR.wp .no Q = False := by rw [CR.wp_eq]; rfl
@[simp] theorem cwp_ex (x : Exn) (S : List (Option M)) (Q : M → List (Option M) → Prop) : CR.wp (.ex x S) Q = False := by rw [CR.wp_eq]; rfl
@[simp] theorem wp_bind {α β : Type} (r : R α) (f : α → SS → R β) (Q : β → SS → Prop) : R.wp (r.bind f) Q = R.wp r (fun a S => R.wp (f a S) Q) := by
  cases r with
  | ok a S => rw [bind_ok, wp_ok]
  | ex _ _ => rw [bind_ex, wp_ex, wp_ex]
  | no => rw [bind_no, wp_no, wp_no]
theorem R.wp_mono {α : Type} {r : R α} {Q Q' : α → SS → Prop} (h : r.wp Q) (k : ∀ a S, Q a S → Q' a S) : r.wp Q' := by
  rw [R.wp_eq] at h ⊢
  cases r with
  | ok a S => exact k _ _ h
  | ex _ _ => exact h
  | no => exact h
theorem CR.wp_mono {r : CR} {Q Q' : M → List (Option M) → Prop} (h : r.wp Q) (k : ∀ a S, Q a S → Q' a S) : r.wp Q' := by
  rw [CR.wp_eq] at h ⊢
  cases r with
  | ok a S => exact k _ _ h
  | ex _ _ => exact h
  | no => exact h
theorem CR.wp_ok {r : CR} {Q : M → List (Option M) → Prop} (h : r.wp Q) : ∃ a S, r = .ok a S ∧ Q a S := by
  rw [CR.wp_eq] at h
  cases r with
  | ok a S => exact ⟨_, _, rfl, h⟩
  | ex _ _ => exact h.elim
  | no => exact h.elim
theorem R.wp_ok' {α : Type} {r : R α} {Q : α → SS → Prop} (h : r.wp Q) : ∃ a S, r = .ok a S ∧ Q a S := by
  rw [R.wp_eq] at h
  cases r with
  | ok a S => exact ⟨_, _, rfl, h⟩
  | ex _ _ => exact h.elim
  | no => exact h.elim
theorem CR.wp_of {r : CR} {Q : M → List (Option M) → Prop} {a : M} {S : List (Option M)} (e : r = .ok a S) (h : Q a S) : r.wp Q := by rw [e, cwp_ok]; exact h
theorem R.wp_of {α : Type} {r : R α} {Q : α → SS → Prop} {a : α} {S : SS} (e : r = .ok a S) (h : Q a S) : r.wp Q := by rw [e, Ev.wp_ok]; exact h
def CR.toR (c : CR) (h : List (Option M) → SS) (_ : Ph h := ⟨⟩) : R M := match c with
  | .ok r fin => .ok r (h fin)
  | .ex x fin => .ex x (h fin)
  | .no => .no
@[simp] theorem toR_ok (a : M) (S : List (Option M)) (h : List (Option M) → SS) : CR.toR (.ok a S) h = .ok a (h S) := (rfl)
@[simp] theorem toR_no (h : List (Option M) → SS) : CR.toR .no h = .no := (rfl)
@[simp] theorem wp_toR (c : CR) (h : List (Option M) → SS) (Q : M → SS → Prop) : R.wp (c.toR h) Q = c.wp (fun r fin => Q r (h fin)) := by rw [R.wp_eq, CR.wp_eq]; cases c <;> rfl
@[simp] theorem bind_toR {β : Type} (c : CR) (h : List (Option M) → SS) (f : M → SS → R β) (Q : β → SS → Prop) : R.wp ((c.toR h).bind f) Q = c.wp (fun r fin => R.wp (f r (h fin)) Q) := by rw [wp_bind, wp_toR]
@[simp] theorem mCall_ap (g : List M → CR) (fas : FA) (S : SS) : mCall g fas S = (fas S).bind fun os S1 => match lend os S1 with
  | some (ms, S2) => (g ms).toR fun fin => back os ms fin S2
  | none => .no := (rfl)
/-- what a body's end is to its caller -/
def endQ (np : Nat) (kp : Nat → Bool) (Q : M → List (Option M) → Prop) : Fl → SS → Prop := fun fl S => match fl with
  | .rt m => Q m (finOf kp S 0 np)
  | .nx => Q (.d .non) (finOf kp S 0 np)
  | _ => False
@[simp] theorem endQ_rt (np : Nat) (kp : Nat → Bool) (Q : M → List (Option M) → Prop) (m : M) (S : SS) : endQ np kp Q (.rt m) S = Q m (finOf kp S 0 np) := (rfl)
@[simp] theorem endQ_nx (np : Nat) (kp : Nat → Bool) (Q : M → List (Option M) → Prop) (S : SS) : endQ np kp Q .nx S = Q (.d .non) (finOf kp S 0 np) := (rfl)
theorem run_wp {np nl : Nat} {kp : Nat → Bool} {body : FS} {ms : List M} {Q : M → List (Option M) → Prop} (hl : ms.length = np) (h : (body (ms.map some ++ List.replicate (nl - np) none)).wp (endQ np kp Q)) : (runFn np nl kp body ms).wp Q := by
  rw [run_ap, if_pos hl]
  obtain ⟨fl, S, e, h⟩ := R.wp_ok' h
  rw [e]
  cases fl with
  | rt m => rw [CR.wp_eq]; exact h
  | nx => rw [CR.wp_eq]; exact h
  | bk => exact h.elim
  | ct => exact h.elim
/-- a walk, by what holds with what is left -/
theorem wp_forL {g : FG} {b : FS} {Q : Fl → SS → Prop} (I : List D → SS → Prop) (h0 : ∀ S, I [] S → Q .nx S)
    (h : ∀ d ds S, I (d :: ds) S → ∃ S1, g d S = some S1 ∧ (b S1).wp fun fl S2 => match fl with | .nx => I ds S2 | .ct => I ds S2 | .bk => Q .nx S2 | .rt m => Q (.rt m) S2) :
    ∀ (ds : List D) (S : SS), I ds S → (forL g b ds S).wp Q
  | [], S, hI => R.wp_of rfl (h0 S hI)
  | d :: ds, S, hI => by
    obtain ⟨S1, e1, h1⟩ := h d ds S hI
    rw [forL_cons, e1]
    dsimp only
    rw [wp_bind]
    refine R.wp_mono h1 fun fl S2 h2 => ?_
    cases fl with
    | nx => exact wp_forL I h0 h ds S2 h2
    | ct => exact wp_forL I h0 h ds S2 h2
    | bk => exact R.wp_of rfl h2
    | rt m => exact R.wp_of rfl h2
/-- a walk of which each round goes on -/
theorem wp_for1 {g : FG} {b : FS} {Q : Fl → SS → Prop} (P : D → Prop) (I : SS → Prop) {ds : List D} {S : SS} (hP : ∀ d ∈ ds, P d) (hI : I S)
    (h : ∀ d S, P d → I S → ∃ S1, g d S = some S1 ∧ (b S1).wp fun fl S2 => match fl with | .nx => I S2 | .ct => I S2 | .bk => Q .nx S2 | .rt m => Q (.rt m) S2) (h0 : ∀ S, I S → Q .nx S) : (forL g b ds S).wp Q :=
  wp_forL (fun ds S => (∀ d ∈ ds, P d) ∧ I S) (fun S hS => h0 S hS.2) (fun d ds S hS => by
    obtain ⟨S1, e1, h1⟩ := h d S (hS.1 d (List.mem_cons_self ..)) hS.2
    refine ⟨S1, e1, R.wp_mono h1 fun fl S2 h2 => ?_⟩
    cases fl with
    | nx => exact ⟨fun x hx => hS.1 x (List.mem_cons_of_mem _ hx), h2⟩
    | ct => exact ⟨fun x hx => hS.1 x (List.mem_cons_of_mem _ hx), h2⟩
    | bk => exact h2
    | rt m => exact h2) ds S ⟨hP, hI⟩
/-- a while, by what holds and a measure -/
theorem wp_while {c : FB} {b : FS} {Q : Fl → SS → Prop} (I : Nat → SS → Prop)
    (h : ∀ n S, I n S → (c S).wp fun k S1 => (k = true → (b S1).wp fun fl S2 => match fl with | .nx => ∃ m, m < n ∧ I m S2 | .ct => ∃ m, m < n ∧ I m S2 | .bk => Q .nx S2 | .rt m => Q (.rt m) S2) ∧ (k = false → Q .nx S1)) (n : Nat) : ∀ S, I n S → (sWhile c b S).wp Q := by
  induction n using Nat.strongRecOn with
  | ind n ih =>
    intro S hI
    rw [sWhile_eq, wp_bind]
    refine R.wp_mono (h n S hI) fun k S1 h1 => ?_
    cases k with
    | false => exact R.wp_of rfl (h1.2 rfl)
    | true =>
      rw [if_pos rfl, wp_bind]
      refine R.wp_mono (h1.1 rfl) fun fl S2 h2 => ?_
      cases fl with
      | nx => obtain ⟨m, hm, hI⟩ := h2; exact ih m hm S2 hI
      | ct => obtain ⟨m, hm, hI⟩ := h2; exact ih m hm S2 hI
      | bk => exact R.wp_of rfl h2
      | rt m => exact R.wp_of rfl h2
theorem rangeD_mem (n : Nat) (i : Int) (d : D) (h : d ∈ rangeD i n) : ∃ k : Int, d = .int k ∧ i ≤ k ∧ k < i + n := by
  unfold rangeD at h
  simp only [List.mem_map, List.mem_range] at h
  obtain ⟨k, hk, e⟩ := h
  exact ⟨_, e.symm, by omega, by omega⟩

def b__law_bag (call : Str → List M → CR) : FS :=
  (sRet (mLst (aCons (eC (.int 0)) (aCons (eC (.int 1234567891)) (aCons (eC (.int 0)) (aCons (eM (mLc [1] (iSeq (eM (mSl (eN 0) pNo (pIx (eC (.int 63)))))) (gN 1) tTrue (eM (mBlt (on1 absD) (aCons (eN 1) aNil))))) aNil))))))
def g__law_bag (call : Str → List M → CR) : List M → CR := runFn 1 2 (kpl [true]) (b__law_bag call)
def b__law_take (call : Str → List M → CR) : FS :=
  (sSeq (sIf (tM (mBin eqD (eM (mBin ixD (eN 0) (eC (.int 0)))) (eC (.int 0))))
    (sSeq (sSet 4 (mE (eC (.int 0))))
  (sSeq (sIf (tM (mBin ltD (eM (mBin ixD (eN 0) (eC (.int 2)))) (eM (mBlt (on1 lenD) (aCons (eM (mBin ixD (eN 0) (eC (.int 3)))) aNil)))))
    (sSet 4 (mBin ixD (eM (mBin ixD (eN 0) (eC (.int 3)))) (eM (mBin ixD (eN 0) (eC (.int 2))))))
    sNil)
  (sSeq (sAugIx 0 iaddD (eC (.int 2)) (eC (.int 1)))
  (sSeq (sIf (tM (mBin geD (eN 4) (eC (.int 1000000000000000000))))
    (sSetIx 0 (eN 4) (eC (.int 0)))
    sNil)
  (sSetIx 0 (eM (mBin modD (eM (mBin addD (eM (mBin addD (eM (mBin mulD (eM (mBin ixD (eN 0) (eC (.int 1)))) (eC (.int 48271)))) (eM (mBin modD (eN 4) (eC (.int 2147483647)))))) (eM (mBin mulD (eC (.int 7919)) (eM (mBin ixD (eN 0) (eC (.int 2)))))))) (eC (.int 2147483647)))) (eC (.int 1)))))))
    sNil)
  (sSeq (sIf (tM (mBin gtD (eM (mBin ixD (eN 0) (eC (.int 0)))) (eC (.int 0))))
    (sSeq (sSet 5 (mBin modD (eM (mBin ixD (eN 0) (eC (.int 0)))) (eN 1)))
  (sSeq (sSetIx 0 (eM (mBin fdivD (eM (mBin ixD (eN 0) (eC (.int 0)))) (eN 1))) (eC (.int 0)))
  (sRetV 5)))
    sNil)
  (sSeq (sSet 2 (mBin modD (eM (mBin mulD (eM (mBin addD (eM (mBin ixD (eN 0) (eC (.int 1)))) (eC (.int 1)))) (eC (.int 39373)))) (eC (.int 1000000007))))
  (sSeq (sSet 3 (mBin modD (eM (mBin mulD (eM (mBin modD (eM (mBin mulD (eN 2) (eN 2))) (eC (.int 998244353)))) (eC (.int 30011)))) (eC (.int 998244353))))
  (sSeq (sIf (tM (mBin gtD (eN 1) (eC (.int 1000000))))
    (sRet (mBin modD (eM (mBin addD (eM (mBin mulD (eN 3) (eC (.int 1000000007)))) (eN 2))) (eN 1)))
    sNil)
  (sRet (mBin modD (eM (mBin fdivD (eN 3) (eC (.int 7)))) (eN 1))))))))
def g__law_take (call : Str → List M → CR) : List M → CR := runFn 2 6 (kpl [true, true]) (b__law_take call)
/-- the drawer of a law's numbers -/
structure Bag where
  a : Int
  b : Int
  c : Int
  xs : List Int
structure Bag.Ok (g : Bag) : Prop where
  a0 : 0 ≤ g.a
  b0 : 0 ≤ g.b
  b1 : g.b < 2147483647
  c0 : 0 ≤ g.c
  xn : ∀ x ∈ g.xs, 0 ≤ x
def Bag.enc (g : Bag) : M := .lst [.int g.a, .int g.b, .int g.c, .lst (g.xs.map .int)]
theorem bag_eq (call : Str → List M → CR) (ns : List Int) (hn : ns.length ≤ 63) : ∃ g : Bag, g.Ok ∧ g__law_bag call [.d (scrD ns)] = .ok g.enc [some (.d (scrD ns))] := by
  refine ⟨⟨0, 1234567891, 0, (ns.take 63).map fun i => if i < 0 then -i else i⟩, ⟨Int.le_refl 0, by show (0 : Int) ≤ 1234567891; decide, by show (1234567891 : Int) < 2147483647; decide, Int.le_refl 0, ?_⟩, ?_⟩
  · intro x hx
    simp only [List.mem_map] at hx
    obtain ⟨y, _, rfl⟩ := hx
    split <;> omega
  · have hcut : cutD (ns.map D.int) none (some 63) = (ns.take 63).map D.int := by
      unfold cutD HT.sIx
      simp
    have e1 : (iSeq (eM (mSl (eN 0) pNo (pIx (eC (.int 63)))))) [some (.d (scrD ns)), none] = .ok ((ns.take 63).map D.int) [some (.d (scrD ns)), none] := by
      simp [iSeq, eM, mSl, eN, pNo, pIx, eC, scrD, sliceD, hcut, force]
    have e2 := mLc_map (own := [1]) (g := gN 1) (t := tTrue) (fe := eM (mBlt (on1 absD) (aCons (eN 1) aNil))) (fun _ => true) (fun d => match d with | .int i => .int (if i < 0 then -i else i) | d => d) e1 (by
      intro d hd
      simp only [List.mem_map] at hd
      obtain ⟨i, _, rfl⟩ := hd
      exact ⟨_, _, rfl, rfl, (fun h => by cases h), (fun _ => ⟨_, _, _, rfl, rfl, rfl⟩)⟩) (by simp [line]; omega)
    have e3 : (fun d => match d with | D.int i => D.int (if i < 0 then -i else i) | d => d) ∘ D.int = D.int ∘ fun i => if i < 0 then -i else i := rfl
    rw [show (fun _ : D => true) = fun _ => true from rfl, List.filter_eq_self.mpr (fun _ _ => rfl), List.map_map, e3, ← List.map_map] at e2
    unfold g__law_bag b__law_bag
    simp -dsimp [List.replicate, e2, Bag.enc, restS, wipeS, keepD]
/-- a cell is drawn when the drawer is empty -/
def Bag.cell (g : Bag) : Int := if g.c < g.xs.length then g.xs.getD g.c.toNat 0 else 0
def Bag.fill (g : Bag) : Bag := if g.a = 0 then ⟨if 1000000000000000000 ≤ g.cell then g.cell else 0, (g.b * 48271 + g.cell % 2147483647 + 7919 * (g.c + 1)) % 2147483647, g.c + 1, g.xs⟩ else g
def Bag.fst (g : Bag) : Int := (g.b + 1) * 39373 % 1000000007
def Bag.snd (g : Bag) : Int := g.fst * g.fst % 998244353 * 30011 % 998244353
def Bag.val (g : Bag) (m : Int) : Int := if 0 < g.a then g.a % m else if 1000000 < m then (g.snd * 1000000007 + g.fst) % m else g.snd / 7 % m
def Bag.left (g : Bag) (m : Int) : Bag := if 0 < g.a then { g with a := g.a / m } else g
theorem Bag.fill_ok {g : Bag} (h : g.Ok) : g.fill.Ok := by
  obtain ⟨a, b, c, xs⟩ := g
  obtain ⟨ha, hb, hb1, hc, hx⟩ := h
  dsimp only at ha hb hb1 hc hx
  unfold Bag.fill
  split
  · refine ⟨?_, ?_, ?_, ?_, hx⟩
    · dsimp only; split <;> omega
    · dsimp only; omega
    · dsimp only; omega
    · dsimp only; omega
  · exact ⟨ha, hb, hb1, hc, hx⟩
theorem Bag.left_ok {g : Bag} {m : Int} (h : g.Ok) (hm : 0 < m) : (g.left m).Ok := by
  unfold Bag.left
  split
  · exact ⟨Int.ediv_nonneg h.a0 (by omega), h.b0, h.b1, h.c0, h.xn⟩
  · exact h
theorem Bag.val_rng {g : Bag} {m : Int} (hm : 0 < m) : 0 ≤ g.val m ∧ g.val m < m := by
  have k : ∀ x : Int, 0 ≤ x % m ∧ x % m < m := fun x => ⟨Int.emod_nonneg x (by omega), Int.emod_lt_of_pos x hm⟩
  unfold Bag.val
  split
  · exact k _
  · split <;> exact k _
theorem take_eq (call : Str → List M → CR) (g : Bag) (m : Int) (hg : g.Ok) (h0 : 0 < m) (h1 : m < 340282366920938463463374607431768211456) :
    g__law_take call [g.enc, .d (.int m)] = .ok (.d (.int (g.fill.val m))) [some (g.fill.left m).enc, some (.d (.int m))] := by
  obtain ⟨a, b, c, xs⟩ := g
  obtain ⟨ha, hb, hb1, hc, hx⟩ := hg
  dsimp only at ha hb hb1 hc hx
  have hm : m ≠ 0 := by omega
  have hdm : divOk m = true := divOk_of h0 h1
  have hd7 : divOk 7 = true := by decide
  unfold g__law_take
  by_cases ha0 : a = 0
  · subst ha0
    have hcell : 0 ≤ (Bag.mk 0 b c xs).cell := by
      unfold Bag.cell
      dsimp only
      split
      · rename_i hl
        rw [List.getD_eq_getElem?_getD]
        cases e : xs[c.toNat]? with
        | none => simp
        | some y => simp; exact hx y (List.mem_of_getElem? e)
      · omega
    have hk : ∀ k : Int, 0 < k → k ≠ 0 := fun k h => by omega
    by_cases hcl : c < xs.length
    · have hat : atI (xs.map D.int) c = some (.int (Bag.mk 0 b c xs).cell) := by
        refine atI_ok hc ?_
        unfold Bag.cell
        dsimp only
        rw [if_pos hcl, List.getElem?_map, List.getD_eq_getElem?_getD]
        have : c.toNat < xs.length := by omega
        rw [List.getElem?_eq_getElem this]
        rfl
      by_cases hbig : 1000000000000000000 ≤ (Bag.mk 0 b c xs).cell
      · have hpos : 0 < (Bag.mk 0 b c xs).cell := by omega
        simp -dsimp [List.replicate, b__law_take, Bag.enc, Bag.fill, Bag.val, Bag.left, hm, hdm, fmod_pos h0, fdiv_pos h0, hcl, hat, hbig, hpos, fmod_pos (show (0 : Int) < 2147483647 by decide), mulOk_r, mulOk_l]
      · have hz : Bag.cell ⟨0, b, c, xs⟩ = Bag.cell ⟨0, b, c, xs⟩ := rfl
        by_cases hbm : 1000000 < m
        · simp -dsimp [List.replicate, b__law_take, Bag.enc, Bag.fill, Bag.val, Bag.left, Bag.fst, Bag.snd, hm, hdm, hd7, fmod_pos h0, fdiv_pos h0, hcl, hat, hbig, fmod_pos (show (0 : Int) < 2147483647 by decide), fmod_pos (show (0 : Int) < 1000000007 by decide), fmod_pos (show (0 : Int) < 998244353 by decide), fdiv_pos (show (0 : Int) < 7 by decide), mulOk_r, mulOk_l, mulOk_modl, hbm]
        · simp -dsimp [List.replicate, b__law_take, Bag.enc, Bag.fill, Bag.val, Bag.left, Bag.fst, Bag.snd, hm, hdm, hd7, fmod_pos h0, fdiv_pos h0, hcl, hat, hbig, fmod_pos (show (0 : Int) < 2147483647 by decide), fmod_pos (show (0 : Int) < 1000000007 by decide), fmod_pos (show (0 : Int) < 998244353 by decide), fdiv_pos (show (0 : Int) < 7 by decide), mulOk_r, mulOk_l, mulOk_modl, hbm]
    · have hz : Bag.cell ⟨0, b, c, xs⟩ = 0 := by unfold Bag.cell; dsimp only; rw [if_neg hcl]
      by_cases hbm : 1000000 < m
      · simp -dsimp [List.replicate, b__law_take, Bag.enc, Bag.fill, Bag.val, Bag.left, Bag.fst, Bag.snd, hm, hdm, hd7, fmod_pos h0, fdiv_pos h0, hcl, hz, fmod_pos (show (0 : Int) < 2147483647 by decide), fmod_pos (show (0 : Int) < 1000000007 by decide), fmod_pos (show (0 : Int) < 998244353 by decide), fdiv_pos (show (0 : Int) < 7 by decide), mulOk_r, mulOk_l, mulOk_modl, hbm]
      · simp -dsimp [List.replicate, b__law_take, Bag.enc, Bag.fill, Bag.val, Bag.left, Bag.fst, Bag.snd, hm, hdm, hd7, fmod_pos h0, fdiv_pos h0, hcl, hz, fmod_pos (show (0 : Int) < 2147483647 by decide), fmod_pos (show (0 : Int) < 1000000007 by decide), fmod_pos (show (0 : Int) < 998244353 by decide), fdiv_pos (show (0 : Int) < 7 by decide), mulOk_r, mulOk_l, mulOk_modl, hbm]
  · have h : 0 < a := by omega
    simp -dsimp [List.replicate, b__law_take, Bag.enc, Bag.fill, Bag.val, Bag.left, ha0, h, hm, hdm, fmod_pos h0, fdiv_pos h0]
@[simp] theorem own_enc (g : Bag) : M.own g.enc = true := rfl
/-- what a draw gives -/
theorem take_wp (call : Str → List M → CR) (g : Bag) (m : Int) (hg : g.Ok) (h0 : 0 < m) (h1 : m < 340282366920938463463374607431768211456) {Q : M → List (Option M) → Prop}
    (h : ∀ (v : Int) (g' : Bag), 0 ≤ v → v < m → g'.Ok → Q (.d (.int v)) [some g'.enc, some (.d (.int m))]) : (g__law_take call [g.enc, .d (.int m)]).wp Q := by
  rw [take_eq call g m hg h0 h1, cwp_ok]
  have v := Bag.val_rng (g := g.fill) h0
  exact h _ _ v.1 v.2 (Bag.left_ok (Bag.fill_ok hg) h0)

theorem rangeD_succ (lo : Int) (n : Nat) : rangeD lo (n + 1) = .int lo :: rangeD (lo + 1) n := by
  unfold rangeD
  rw [List.range_succ_eq_map, List.map_cons, List.map_map]
  congr 1
  · simp
  · apply List.map_congr_left
    intro k _
    simp only [Function.comp]
    congr 1
    omega
/-- a walk over a range, by what holds ahead of turn k -/
theorem wp_range {g : FG} {b : FS} {Q : Fl → SS → Prop} (I : Nat → SS → Prop) : ∀ (n : Nat) (lo : Int) (o : Nat) (S : SS), I o S →
    (∀ k, o ≤ k → k < o + n → ∀ S, I k S → ∃ S1, g (.int (lo + ((k - o : Nat) : Int))) S = some S1 ∧ (b S1).wp fun fl S2 => match fl with | .nx => I (k + 1) S2 | .ct => I (k + 1) S2 | .bk => Q .nx S2 | .rt m => Q (.rt m) S2) →
    (∀ S, I (o + n) S → Q .nx S) → (forL g b (rangeD lo n) S).wp Q
  | 0, lo, o, S, h0, h, hn => R.wp_of rfl (hn S h0)
  | n + 1, lo, o, S, h0, h, hn => by
    rw [rangeD_succ, forL_cons]
    obtain ⟨S1, e1, h1⟩ := h o (Nat.le_refl _) (by omega) S h0
    simp only [Nat.sub_self, Int.ofNat_zero, Int.natCast_zero, Int.add_zero] at e1
    rw [e1]
    dsimp only
    rw [wp_bind]
    have next : ∀ S2, I (o + 1) S2 → (forL g b (rangeD (lo + 1) n) S2).wp Q := fun S2 h2 => by
      refine wp_range I n (lo + 1) (o + 1) S2 h2 (fun k hk1 hk2 S hk => ?_) (fun S hS => hn S (by rw [show o + (n + 1) = o + 1 + n by omega]; exact hS))
      have := h k (by omega) (by omega) S hk
      rw [show lo + ((k - o : Nat) : Int) = lo + 1 + ((k - (o + 1) : Nat) : Int) by omega] at this
      exact this
    refine R.wp_mono h1 fun fl S2 h2 => ?_
    cases fl with
    | nx => exact next S2 h2
    | ct => exact next S2 h2
    | bk => exact R.wp_of rfl h2
    | rt m => exact R.wp_of rfl h2
/-- a comprehension that leaves all else as it is -/
theorem mLc_mapP {own : List Nat} {fi : FI} {g : FG} {fe : FE} {S S1 : SS} {ds : List D} (f : D → D) (h : fi S = .ok ds S1)
    (hs : ∀ d ∈ ds, ∃ S2, g d (wipeS S1 own) = some S2 ∧ (fe S2).wp fun o S4 => ∃ S5, force o S4 = some (f d, S5) ∧ wipeS S5 own = wipeS S1 own)
    (hl : ds.length ≤ line) : mLc own fi g tTrue fe S = .ok (.lst (ds.map f)) (restS S1 S1 own) := by
  have := mLc_map (own := own) (g := g) (t := tTrue) (fe := fe) (fun _ => true) f h (fun d hd => by
    obtain ⟨S2, h1, h2⟩ := hs d hd
    refine ⟨S2, S2, h1, rfl, (fun h => by cases h), fun _ => ?_⟩
    obtain ⟨o, S4, e, h2⟩ := R.wp_ok' h2
    obtain ⟨S5, h3, h4⟩ := h2
    exact ⟨o, S4, S5, e, h3, h4⟩) hl
  rw [this, List.filter_eq_self.mpr (fun _ _ => rfl)]
theorem wp_lcL {own : List Nat} {g : FG} {t : FB} {fe : FE} {Q : List D → SS → Prop} (I : List D → List D → SS → Prop) (h0 : ∀ acc S, I [] acc S → Q acc S)
    (h : ∀ d ds acc S, I (d :: ds) acc S → ∃ S1, g d (wipeS S own) = some S1 ∧ (t S1).wp fun b S2 => (b = true → (fe S2).wp fun o S3 => ∃ x S4, force o S3 = some (x, S4) ∧ acc.length < line ∧ I ds (acc ++ [x]) S4) ∧ (b = false → I ds acc S2)) :
    ∀ (ds : List D) (S : SS) (acc : List D), I ds acc S → (lcL own g t fe ds S acc).wp Q
  | [], S, acc, hI => R.wp_of rfl (h0 acc S hI)
  | d :: ds, S, acc, hI => by
    obtain ⟨S1, e1, h1⟩ := h d ds acc S hI
    show R.wp (match g d (wipeS S own) with
      | none => R.no
      | some S1 => (t S1).bind fun b S2 => if b = true then (fe S2).bind fun o S3 => (match force o S3 with
          | some (x, S4) => if acc.length < line then lcL own g t fe ds S4 (acc ++ [x]) else .no
          | none => .no) else lcL own g t fe ds S2 acc) Q
    rw [e1]
    dsimp only
    rw [wp_bind]
    refine R.wp_mono h1 fun b S2 h2 => ?_
    cases b with
    | false =>
      rw [if_neg (by decide)]
      exact wp_lcL I h0 h ds S2 acc (h2.2 rfl)
    | true =>
      rw [if_pos rfl, wp_bind]
      refine R.wp_mono (h2.1 rfl) fun o S3 h3 => ?_
      obtain ⟨x, S4, e3, h4, h5⟩ := h3
      rw [e3]
      dsimp only
      rw [if_pos h4]
      exact wp_lcL I h0 h ds S4 (acc ++ [x]) h5
/-- a comprehension, by what holds with what is left and what is made -/
theorem wp_lc {own : List Nat} {fi : FI} {g : FG} {t : FB} {fe : FE} {Q : M → SS → Prop} {S S1 : SS} {ds : List D} (I : List D → List D → SS → Prop) (hf : fi S = .ok ds S1) (h1 : I ds [] S1)
    (h : ∀ d ds acc S, I (d :: ds) acc S → ∃ S1, g d (wipeS S own) = some S1 ∧ (t S1).wp fun b S2 => (b = true → (fe S2).wp fun o S3 => ∃ x S4, force o S3 = some (x, S4) ∧ acc.length < line ∧ I ds (acc ++ [x]) S4) ∧ (b = false → I ds acc S2))
    (h0 : ∀ acc S, I [] acc S → Q (.lst acc) (restS S1 S own)) : (mLc own fi g t fe S).wp Q := by
  unfold mLc
  rw [hf, bind_ok, wp_bind]
  exact wp_lcL I (fun acc S hI => R.wp_of rfl (h0 acc S hI)) h ds S1 [] h1
@[simp] theorem absD_i (i : Int) : absD (.int i) = some (.d (.int (if i < 0 then -i else i))) := (rfl)
@[simp] theorem maxD_ii (i j : Int) : maxD (.int i) (.int j) = some (.d (.int (if j > i then j else i))) := (rfl)
@[simp] theorem minD_ii (i j : Int) : minD (.int i) (.int j) = some (.d (.int (if j < i then j else i))) := (rfl)
@[simp] theorem intD_i (i : Int) : intD (.int i) = some (.d (.int i)) := (rfl)
@[simp] theorem intD_b (b : Bool) : intD (.bl b) = some (.d (.int (if b then 1 else 0))) := (rfl)
@[simp] theorem tupleD_l (xs : List D) : tupleD (.lst xs) = some (.d (.tup xs)) := (rfl)
@[simp] theorem tupleD_t (xs : List D) : tupleD (.tup xs) = some (.d (.tup xs)) := (rfl)
@[simp] theorem listD_l (xs : List D) : listD (.lst xs) = some (.lst xs) := (rfl)
@[simp] theorem listD_t (xs : List D) : listD (.tup xs) = some (.lst xs) := (rfl)
@[simp] theorem ixD_s (z : Str) (i : Int) : ixD (.str z) (.int i) = if z.length ≤ line then (atI z.cps.toList i).map fun c => .d (.str ⟨#[c]⟩) else none := (rfl)
@[simp] theorem sliceD_s (z : Str) (lo hi : Option Int) : sliceD lo hi (.str z) = if z.length ≤ line then some (.d (.str (cutS z lo hi))) else none := (rfl)
@[simp] theorem sliceD_l (z : List D) (lo hi : Option Int) : sliceD lo hi (.lst z) = some (.lst (cutD z lo hi)) := (rfl)
@[simp] theorem sliceD_t (z : List D) (lo hi : Option Int) : sliceD lo hi (.tup z) = some (.d (.tup (cutD z lo hi))) := (rfl)
@[simp] theorem mulD_li (xs : List D) (k : Int) : mulD (.lst xs) (.int k) = if (-(2 ^ 63) ≤ k ∧ k < 2 ^ 63) ∧ xs.length * k.toNat ≤ line then some (.lst (List.replicate k.toNat xs).flatten) else none := (rfl)
@[simp] theorem line_v : line = 16777216 := by unfold line; rfl
@[simp] theorem eqb_bt (b : Bool) (i : List D) : D.eqb (.bl b) (.tup i) = false := (rfl)
@[simp] theorem eqb_tb (b : Bool) (i : List D) : D.eqb (.tup i) (.bl b) = false := (rfl)
@[simp] theorem knd_non : D.knd .non = "NoneType" := (rfl)

/-- numbers to 10^18 of either sign, truths, tuples of these -/
inductive Vl : Nat → D → Prop
  | int (k : Nat) (i : Int) : -1000000000000000000 ≤ i → i ≤ 1000000000000000000 → Vl k (.int i)
  | bl (k : Nat) (b : Bool) : Vl k (.bl b)
  | tup (k : Nat) (ds : List D) : ds.length ≤ 1000 → (∀ d ∈ ds, Vl k d) → Vl (k + 1) (.tup ds)
theorem Vl.mono {k k' : Nat} {d : D} (h : Vl k d) : k ≤ k' → Vl k' d := by
  induction h generalizing k' with
  | int k i h1 h2 => exact fun _ => .int _ _ h1 h2
  | bl k b => exact fun _ => .bl _ _
  | tup k ds hl h ih =>
    intro hk
    cases k' with
    | zero => omega
    | succ k' => exact .tup _ _ hl fun d hd => ih d hd (by omega)
theorem pls_of {ds : List D} (h : ∀ d ∈ ds, d.pl = true) : D.pls ds = true := by
  induction ds with
  | nil => rfl
  | cons x xs ih => rw [pls_cons, h x (List.mem_cons_self ..), ih fun d hd => h d (List.mem_cons_of_mem _ hd)]; rfl
theorem deps_of {ds : List D} {k : Nat} (h : ∀ d ∈ ds, d.dep ≤ k) : D.deps ds ≤ k := by
  induction ds with
  | nil => exact Nat.zero_le _
  | cons x xs ih =>
    rw [deps_cons]
    exact Nat.max_le.mpr ⟨h x (List.mem_cons_self ..), ih fun d hd => h d (List.mem_cons_of_mem _ hd)⟩
theorem Vl.pl {k : Nat} {d : D} (h : Vl k d) : d.pl = true := by
  induction h with
  | int k i h1 h2 => rfl
  | bl k b => rfl
  | tup k ds hl h ih => rw [pl_tup]; exact pls_of ih
theorem Vl.dep {k : Nat} {d : D} (h : Vl k d) : d.dep ≤ k := by
  induction h with
  | int k i h1 h2 => exact Nat.zero_le _
  | bl k b => exact Nat.zero_le _
  | tup k ds hl h ih => rw [dep_tup]; exact Nat.succ_le_succ (deps_of ih)
mutual
/-- the same value, kinds and all -/
def D.sm : D → D → Bool
  | .tup xs, y => match y with
    | .tup ys => D.sms xs ys
    | _ => false
  | .int i, y => match y with
    | .int j => i == j
    | _ => false
  | .bl i, y => match y with
    | .bl j => i == j
    | _ => false
  | _, _ => false
def D.sms : List D → List D → Bool
  | [], ys => match ys with
    | [] => true
    | _ :: _ => false
  | x :: xs, ys => match ys with
    | [] => false
    | y :: ys => D.sm x y && D.sms xs ys
end
@[simp] theorem sm_tt (xs ys : List D) : D.sm (.tup xs) (.tup ys) = D.sms xs ys := (rfl)
@[simp] theorem sm_ii (i j : Int) : D.sm (.int i) (.int j) = (i == j) := (rfl)
@[simp] theorem sm_bb (i j : Bool) : D.sm (.bl i) (.bl j) = (i == j) := (rfl)
@[simp] theorem sm_it (i : Int) (ys : List D) : D.sm (.int i) (.tup ys) = false := (rfl)
@[simp] theorem sm_ti (i : Int) (ys : List D) : D.sm (.tup ys) (.int i) = false := (rfl)
@[simp] theorem sm_bt (i : Bool) (ys : List D) : D.sm (.bl i) (.tup ys) = false := (rfl)
@[simp] theorem sm_tb (i : Bool) (ys : List D) : D.sm (.tup ys) (.bl i) = false := (rfl)
@[simp] theorem sm_ib (i : Int) (j : Bool) : D.sm (.int i) (.bl j) = false := (rfl)
@[simp] theorem sm_bi (i : Int) (j : Bool) : D.sm (.bl j) (.int i) = false := (rfl)
theorem sms_len : ∀ {xs ys : List D}, D.sms xs ys = true → xs.length = ys.length
  | [], [], _ => rfl
  | [], _ :: _, h => by cases h
  | _ :: _, [], h => by cases h
  | x :: xs, y :: ys, h => by
    have h : (D.sm x y && D.sms xs ys) = true := h
    rw [Bool.and_eq_true] at h
    simp [sms_len h.2]
theorem asBls_map : ∀ bs : List Bool, asBls (bs.map D.bl) = some bs
  | [] => rfl
  | b :: bs => by
    show (asBls (bs.map D.bl)).map (b :: ·) = _
    rw [asBls_map bs]
    rfl
theorem allD_bls (bs : List Bool) : allD (.lst (bs.map D.bl)) = some (.d (.bl (bs.all id))) := by
  show (asBls (bs.map D.bl)).map _ = _
  rw [asBls_map]
  rfl
theorem mem_zipW {α β γ : Type} {f : α → β → γ} {d : γ} : ∀ {xs : List α} {ys : List β}, d ∈ List.zipWith f xs ys → ∃ x, x ∈ xs ∧ ∃ y, y ∈ ys ∧ f x y = d
  | [], _, h => by simp at h
  | _ :: _, [], h => by simp at h
  | x :: xs, y :: ys, h => by
    rw [List.zipWith_cons_cons] at h
    rcases List.mem_cons.mp h with h | h
    · exact ⟨x, List.mem_cons_self .., y, List.mem_cons_self .., h.symm⟩
    · obtain ⟨x', hx, y', hy, e⟩ := mem_zipW h
      exact ⟨x', List.mem_cons_of_mem _ hx, y', List.mem_cons_of_mem _ hy, e⟩
theorem zip_all : ∀ {xs ys : List D}, xs.length = ys.length → ((List.zipWith (fun x y => D.sm x y) xs ys).all id) = D.sms xs ys
  | [], [], _ => rfl
  | x :: xs, y :: ys, h => by
    simp only [List.zipWith_cons_cons, List.all_cons, id]
    rw [zip_all (by simpa using h)]
    rfl
theorem any_not (bs : List Bool) : (!(bs.map D.bl).any fun y => D.eqb y (.bl false)) = bs.all id := by
  induction bs with
  | nil => rfl
  | cons b bs ih =>
    rw [List.map_cons, List.any_cons, List.all_cons, Bool.not_or, ih]
    cases b <;> rfl
section
variable {X : Cx} {kp : Nat → Bool} {e a b c : Expr} {pos : Pos} {K : PySem.W.Frag} {F : Hp}

/-- lo, lo - 1, .. -/
def downD (lo : Int) (n : Nat) : List D := (List.range n).map fun (k : Nat) => .int (lo - (k : Int))
theorem walks_down {lo : Int} {n : Nat} : Walks K (Itc lo (-1) n) (downD lo n) F := by
  have hl : (downD lo n).length = n := by unfold downD; rw [List.length_map, List.length_range]
  refine ⟨fun i H F' l1 l2 hi => ?_, fun i H F' O σ S x H' rp l1 hi y => ?_, fun H F' l1 l2 => ?_⟩
  · rw [hl] at hi; exact hi
  · obtain ⟨e, y⟩ := y
    subst e y
    refine ⟨F', Stp.refl _ _ _, rp, fun d hd => ?_⟩
    unfold downD at hd
    rw [List.getElem?_map, List.getElem?_range (by rw [hl] at hi; exact hi)] at hd
    cases hd
    rw [show lo + (i : Int) * -1 = lo - (i : Int) by omega]
    exact .int _
  · show n ≤ (downD lo n).length
    rw [hl]; exact Nat.le_refl _
/-- range(a, b, -1) -/
def iDown (f : FA) : FI := fun S => (f S).bind fun os S => match getAll os S with
  | some [.int i, .int j, .int c] => if c = -1 ∧ (-4611686018427387904 ≤ i ∧ i < 4611686018427387904) ∧ -4611686018427387904 ≤ j ∧ j < 4611686018427387904 then .ok (downD i (i - j).toNat) S else .no
  | _ => .no
theorem di_down {f : FA} {p : Pos} (hg : Gl X "range") (hm : X.mg "range" = none) (h : DA X f [a, b, c]) (hs : starEach [a, b, c] X.env = (false, eval a X.env) :: starEach [b, c] X.env := by rfl)
    (hn : (backTo pos (starEach [b, c] X.env)).any (fun x => x.1) = false := by rfl) : DI X (iDown f) (.Call (.Name "range" p) [a, b, c] [] pos) := fun tg => by
  refine PI.imp (pi_range3 hg hm h hs hn) fun σ H R' ⟨F, O, S, ds, S', r, hf, k⟩ => ?_
  obtain ⟨os, S1, h1, h2⟩ := R.bind_ok hf
  refine ⟨F, O, S, os, S1, r, h1, fun vs H1 F1 O1 st1 r1 ro => ?_⟩
  cases eg : getAll os S1 with
  | none => rw [eg] at h2; cases h2
  | some zs =>
    rw [eg] at h2
    have key : ∃ i j, zs = [.int i, .int j, .int (-1)] ∧ ((-4611686018427387904 ≤ i ∧ i < 4611686018427387904) ∧ -4611686018427387904 ≤ j ∧ j < 4611686018427387904) ∧ R.ok (downD i (i - j).toNat) S1 = R.ok ds S' := by
      split at h2
      · rename_i i j c e
        cases e
        split at h2
        · rename_i hc
          obtain ⟨rfl, hc⟩ := hc
          exact ⟨i, j, rfl, hc, h2⟩
        · cases h2
      · cases h2
    obtain ⟨i, j, rfl, hb, h2⟩ := key
    cases h2
    have vw := getAll_ok r1 ro eg
    match vs, vw with
    | [_, _, _], .cons v1 (.cons v2 (.cons v3 .nil)) =>
      obtain rfl := v1.int
      obtain rfl := v2.int
      obtain rfl := v3.int
      exact ⟨i, j, -1, _, rfl, RgC.neg hb.1.1 hb.1.2 hb.2.1 hb.2.2, k _ H1 F1 O1 st1 r1 walks_down⟩

/-- sep.join(texts) -/
def asStrs : List D → Option (List Str)
  | [] => some []
  | .str i :: ds => (asStrs ds).map (i :: ·)
  | _ :: _ => none
theorem asStrs_ok : ∀ {ds : List D} {ns : List Str} {vs : List V}, asStrs ds = some ns → RepDs K F vs ds → vs = ns.map V.str
  | [], _, _, e, .nil => by cases e; rfl
  | d :: ds, ns, _, e, .cons h r => by
    cases d with
    | str i =>
      have e : (asStrs ds).map (i :: ·) = some ns := e
      cases e2 : asStrs ds with
      | none => rw [e2] at e; cases e
      | some l =>
        rw [e2] at e
        cases e
        cases h
        rw [asStrs_ok e2 r]
        rfl
    | _ => cases e
def joinD (x : Str) (d : D) : Option D :=
  match (match d with | .lst xs => asStrs xs | .tup xs => asStrs xs | _ => none) with
  | some ys => if (ys.map (·.length)).sum + ys.length * x.length ≤ 16777216 then some (.str (Txt.join x ys)) else none
  | none => none
def mJoin (fo fe : FE) : FM := fun S => (fo S).bind fun o S => match o.get S with
  | some (.str x) => (fe S).bind fun p S => (match p.get S with
    | some d => (match joinD x d with
      | some z => .ok (.d z) S
      | none => .no)
    | none => .no)
  | _ => .no
theorem dm_join {o : Expr} {fo fe : FE} {apos : Pos} (ho : DE X fo o) (he : DE X fe e) (hs : starEach [e] X.env = [(false, eval e X.env)] := by rfl)
    (hb : attributeBase o "join" X.env (eval o X.env) = eval o X.env := by rfl) (hp : (apos.endLine == pos.line) = true := by rfl) :
    DM X (mJoin fo fe) (.Call (.Attribute o "join" apos) [e] [] pos) := PE.imp (pe_join ho he hs hb hp) fun σ H Q ⟨F, O, S, m, S', r, hf, k⟩ => by
  obtain ⟨o1, S1, h1, h2⟩ := R.bind_ok hf
  refine ⟨F, O, S, o1, S1, r, h1, fun v H1 F1 O1 st1 r1 ro => ?_⟩
  cases eg : o1.get S1 with
  | none => rw [eg] at h2; cases h2
  | some d =>
    rw [eg] at h2
    cases d with
    | str x =>
      dsimp only at h2
      obtain rfl := (r1.view ro eg).str
      obtain ⟨p, S2, h3, h4⟩ := R.bind_ok h2
      refine ⟨⟨x, rfl⟩, F1, O1, S1, p, S2, r1, h3, fun w H2 F2 O2 st2 r2 rp => ?_⟩
      cases eg2 : p.get S2 with
      | none => rw [eg2] at h4; cases h4
      | some d =>
        rw [eg2] at h4
        dsimp only at h4
        cases ej : joinD x d with
        | none => rw [ej] at h4; cases h4
        | some z =>
          rw [ej] at h4
          cases h4
          have vw := r2.view rp eg2
          unfold joinD at ej
          have fin : ∀ v : V, ∀ d, RepD X.K F2 v d → z = d → Q v H2 := fun v d rd e => by
            subst e
            exact k v H2 F2 O2 (st1.trans st2) r2 rd
          cases d with
          | lst xs =>
            obtain ⟨p, vs, rfl, hl, rl⟩ := vw.list r2.bs.fh
            dsimp only at ej
            cases ea : asStrs xs with
            | none => rw [ea] at ej; cases ej
            | some ys =>
              rw [ea] at ej
              dsimp only at ej
              split at ej
              · rename_i hh
                cases ej
                refine ⟨x, p, ys, rfl, rfl, .inl ?_, hh, fin _ _ (.str _) rfl⟩
                rw [← asStrs_ok ea rl]
                exact .inl hl
              · cases ej
          | tup xs =>
            obtain ⟨p, vs, rfl, hl, rl⟩ := vw.tuple r2.bs.fh
            dsimp only at ej
            cases ea : asStrs xs with
            | none => rw [ea] at ej; cases ej
            | some ys =>
              rw [ea] at ej
              dsimp only at ej
              split at ej
              · rename_i hh
                cases ej
                refine ⟨x, p, ys, rfl, rfl, .inr ?_, hh, fin _ _ (.str _) rfl⟩
                rw [← asStrs_ok ea rl]
                exact hl
              · cases ej
          | _ => cases ej
    | _ => cases h2

/-- a text's method of one thing -/
def mStr (g : Str → D → Option D) (fo fe : FE) : FM := fun S => (fo S).bind fun o S => match o.get S with
  | some (.str x) => (fe S).bind fun p S => (match p.get S with
    | some d => (match g x d with
      | some z => .ok (.d z) S
      | none => .no)
    | none => .no)
  | _ => .no
def rstripD (x : Str) (d : D) : Option D := match d with
  | .str y => if x.length ≤ line then some (.str (Txt.rstripChars x y)) else none
  | _ => none
theorem dm_rstrip {o : Expr} {fo fe : FE} {apos : Pos} (ho : DE X fo o) (he : DE X fe e)
    (hb : attributeBase o "rstrip" X.env (eval o X.env) = eval o X.env := by rfl)
    (hq : (((backTo pos (starEach [e] X.env)).all (fun x => !x.1) && (backToKw pos (keywordEach [] X.env)).all (fun x => x.1.isSome)) && decide (([e].length + ([] : List Keyword).length + if ([] : List Keyword).isEmpty then 0 else 1) < 30)) = true := by rfl)
    (hp : (apos.endLine == pos.line) = true := by rfl) (hs : starEach [e] X.env = (false, eval e X.env) :: starEach [] X.env := by rfl) (hn : ((backTo pos (starEach [] X.env)).any fun x => x.1) = false := by rfl) :
    DM X (mStr rstripD fo fe) (.Call (.Attribute o "rstrip" apos) [e] [] pos) := PE.imp (pe_bm PySem.F.plainAttrs_str PySem.F.slot_str_rstrip PySem.F.type_str_rstrip mt_rstripChars ho (da_cons he da_nil hs) hb hq hp hs hn) fun σ H Q ⟨F, O, S, m, S', r, hf, k⟩ => by
  obtain ⟨o1, S1, h1, h2⟩ := R.bind_ok hf
  refine ⟨F, O, S, o1, S1, r, h1, fun v H1 F1 O1 st1 r1 ro => ?_⟩
  cases eg : o1.get S1 with
  | none => rw [eg] at h2; cases h2
  | some d =>
    rw [eg] at h2
    cases d with
    | str x =>
      dsimp only at h2
      obtain rfl := (r1.view ro eg).str
      obtain ⟨p, S2, h3, h4⟩ := R.bind_ok h2
      have h5 : aCons fe aNil S1 = .ok [p] S2 := by
        show (fe S1).bind _ = _
        rw [h3]
        rfl
      refine ⟨rfl, F1, O1, S1, [p], S2, r1, h5, fun ws H2 F2 O2 st2 r2 rps => ?_⟩
      match ws, rps with
      | [w], .cons rp .nil =>
        cases eg2 : p.get S2 with
        | none => rw [eg2] at h4; cases h4
        | some d =>
          rw [eg2] at h4
          dsimp only at h4
          have vw := r2.view rp eg2
          cases d with
          | str y =>
            have h4 : (match (if x.length ≤ line then some (D.str (Txt.rstripChars x y)) else none) with | some z => R.ok (M.d z) S2 | none => .no) = .ok m S' := h4
            split at h4
            · rename_i z hz
              split at hz
              · rename_i hl
                cases hz
                cases h4
                obtain rfl := vw.str
                exact ⟨x, y, rfl, rfl, by rw [← line_eq]; exact hl, k _ H2 F2 O2 (st1.trans st2) r2 (.str _)⟩
              · cases hz
            · cases h4
          | _ => cases h4
    | _ => cases h2
end
/-- a, b = e1, e2 -/
def sPar (i j : Nat) (f : FA) : FS := fun S => (f S).bind fun os S => match forceAll os S with
  | some ([x, y], S) => .ok .nx ((S.set i (some (.d x))).set j (some (.d y)))
  | _ => .no
section
variable {X : Cx} {kp : Nat → Bool} {a b : Expr} {pos : Pos}
theorem ds_par {i j : Nat} {x y : Str} {f : FA} {px py pt : Pos} {kt k2 : Nat} {pt2 : Pos} (hc : X.calm = true) (hN : X.N.Nodup) (hi : X.N[i]? = some x) (hj : X.N[j]? = some y) (hij : i ≠ j)
    (hx : X.env.scope.names.lookup x = some .local) (hy : X.env.scope.names.lookup y = some .local) (hki : kp i = false) (hkj : kp j = false) (h : DA X f [a, b])
    (hs : swappedStores [.Tuple [.Name x px, .Name y py] kt pt] (.Tuple [a, b] k2 pt2) X.env = pure (some [x, y]))
    (hw : swapsWithSole [.Tuple [.Name x px, .Name y py] kt pt] (.Tuple [a, b] k2 pt2) pos.line X.env = pure false := by rfl) :
    DS X kp (sPar i j f) (.Assign [.Tuple [.Name x px, .Name y py] kt pt] (.Tuple [a, b] k2 pt2) pos) := PS.imp (ps_par hc hN hi hj hij hx hy h hs hw) fun D σ H ⟨F, O, S, fl, S', r, hf, k⟩ => by
  obtain ⟨os, S1, h1, h2⟩ := R.bind_ok hf
  refine ⟨F, O, S, os, S1, r, h1, fun vs H1 F1 O1 st1 r1 ro => ?_⟩
  cases ef : forceAll os S1 with
  | none => rw [ef] at h2; cases h2
  | some z =>
    obtain ⟨zs, S2⟩ := z
    rw [ef] at h2
    obtain ⟨F2, O2, st2, r2, rd⟩ := forceAll_ok r1 ro ef
    have key : ∃ x y, zs = [x, y] ∧ R.ok Fl.nx ((S2.set i (some (.d x))).set j (some (.d y))) = R.ok fl S' := by
      split at h2
      · rename_i e; cases e; exact ⟨_, _, rfl, h2⟩
      · cases h2
    obtain ⟨x', y', rfl, h2⟩ := key
    cases h2
    match vs, rd with
    | [v, w], .cons d1 (.cons d2 .nil) =>
      exact ⟨v, w, rfl, k _ H1 F2 O2 (st1.trans st2) ((r2.putD d1).putD d2) ((Kp.set hki).trans (Kp.set hkj))⟩
end
@[simp] theorem iDown_ap (f : FA) (S : SS) : iDown f S = (f S).bind fun os S => match getAll os S with
  | some [.int i, .int j, .int c] => if c = -1 ∧ (-4611686018427387904 ≤ i ∧ i < 4611686018427387904) ∧ -4611686018427387904 ≤ j ∧ j < 4611686018427387904 then .ok (downD i (i - j).toNat) S else .no
  | _ => .no := (rfl)
@[simp] theorem mJoin_ap (fo fe : FE) (S : SS) : mJoin fo fe S = (fo S).bind fun o S => match o.get S with
  | some (.str x) => (fe S).bind fun p S => (match p.get S with
    | some d => (match joinD x d with
      | some z => .ok (.d z) S
      | none => .no)
    | none => .no)
  | _ => .no := (rfl)
@[simp] theorem mStr_ap (g : Str → D → Option D) (fo fe : FE) (S : SS) : mStr g fo fe S = (fo S).bind fun o S => match o.get S with
  | some (.str x) => (fe S).bind fun p S => (match p.get S with
    | some d => (match g x d with
      | some z => .ok (.d z) S
      | none => .no)
    | none => .no)
  | _ => .no := (rfl)
@[simp] theorem sPar_ap (i j : Nat) (f : FA) (S : SS) : sPar i j f S = (f S).bind fun os S => match forceAll os S with
  | some ([x, y], S) => .ok .nx ((S.set i (some (.d x))).set j (some (.d y)))
  | _ => .no := (rfl)
@[simp] theorem rstripD_s (x y : Str) : rstripD x (.str y) = if x.length ≤ line then some (.str (Txt.rstripChars x y)) else none := (rfl)
@[simp] theorem mulD_si (x : Str) (k : Int) : mulD (.str x) (.int k) = if 0 ≤ k ∧ k ≤ 1000 ∧ x.length ≤ 1000 then some (.d (.str (repS x k.toNat))) else none := (rfl)
@[simp] theorem mulD_ti (xs : List D) (k : Int) : mulD (.tup xs) (.int k) = if 0 ≤ k ∧ k ≤ 10000 ∧ xs ≠ [] ∧ xs.length ≤ 100 then some (.d (.tup (List.replicate k.toNat xs).flatten)) else none := (rfl)
@[simp] theorem sms_nl : D.sms [] [] = true := (rfl)
@[simp] theorem sms_nc (x : D) (xs : List D) : D.sms [] (x :: xs) = false := (rfl)
@[simp] theorem sms_cn (x : D) (xs : List D) : D.sms (x :: xs) [] = false := (rfl)
@[simp] theorem sms_cc (x y : D) (xs ys : List D) : D.sms (x :: xs) (y :: ys) = (D.sm x y && D.sms xs ys) := (rfl)
@[simp] theorem isND_n (a : D) : isND a .non = some (.d (.bl a.isNon)) := by cases a <;> rfl
@[simp] theorem isnND_n (a : D) : isnND a .non = some (.d (.bl (!a.isNon))) := by cases a <;> rfl
@[simp] theorem isND_bb (a b : Bool) : isND (.bl a) (.bl b) = some (.d (.bl (decide (a = b)))) := (rfl)
@[simp] theorem isnND_bb (a b : Bool) : isnND (.bl a) (.bl b) = some (.d (.bl (!decide (a = b)))) := (rfl)
@[simp] theorem isNon_non : D.isNon .non = true := (rfl)
@[simp] theorem isNon_int (i : Int) : D.isNon (.int i) = false := (rfl)
@[simp] theorem isNon_bl (i : Bool) : D.isNon (.bl i) = false := (rfl)
@[simp] theorem isNon_str (i : Str) : D.isNon (.str i) = false := (rfl)
@[simp] theorem isNon_tup (i : List D) : D.isNon (.tup i) = false := (rfl)
@[simp] theorem isNon_lst (i : List D) : D.isNon (.lst i) = false := (rfl)

/-! ### enumerate(text) -/
/-- the signs of a text with their numbers, in new pairs -/
def Iten (x : Str) : It := ⟨fun i _ => i < x.cps.size, fun i H v H' => ∃ T c, x.cps[i]? = some c ∧ v = .ref T ∧ H T = none ∧ H' = upd H T (.tup [.int (i : Nat), .str ⟨#[c]⟩]), fun i _ => x.cps.size ≤ i⟩
theorem turn_enumS {P : Program} {w : World} {K : PySem.W.Frag} {elts : List Expr} {kk : Nat} {tpos : Pos} (e it : Addr) (x : Str) (t : Tok) (ty : String) (hty : ty = "str_ascii_iterator" ∨ ty = "str_iterator") :
    Turn P w K (.Tuple elts kk tpos) (Iten x) [e, it] e (fun i h => (∃ old, IsEnum h e it ((i : Nat) : Int) old) ∧ h.IsStrIter it ty x t i ∧ e ≠ it ∧ i ≤ x.cps.size) where
  mem := by simp
  obj := fun i h st b hb => by
    obtain ⟨⟨old, he⟩, ⟨o, ho, hc, hd⟩, _, _⟩ := st
    have e' : b = e ∨ b = it := by simpa using hb
    rcases e' with z | z
    · rw [z]; exact ⟨_, he, fun v q => nomatch q⟩
    · rw [z]; exact ⟨o, ho, fun v q => by rw [hd] at q; cases q⟩
  keep := fun i h h' st k => let ⟨⟨old, he⟩, ⟨o, ho, r⟩, hne⟩ := st; ⟨⟨old, k e (by simp) _ he⟩, ⟨o, k it (by simp) o ho, r⟩, hne⟩
  item := by
    intro X hP hw hK hc i pins s σ H E I hf st hg
    subst hP hw hK
    obtain ⟨⟨old, he⟩, hit, hne, hle⟩ := st
    have D : Draws X.prog X.w X.A.in1 it [it] x.cps.size (SignAt x) (fun i h => h.IsStrIter it ty x t i) := by
      rcases hty with z | z
      · rw [z]; exact Draws.strAscii (A := X.A.in1) (I.ok.hd hc) it x t
      · rw [z]; exact Draws.strWide (A := X.A.in1) (I.ok.hd hc) it x t
    have hel : e < s.heap.objs.size := Heap.lt_size he
    have hil : it < s.heap.objs.size := by obtain ⟨_, q, _⟩ := hit; exact Heap.lt_size q
    refine wpAny_pyNext_enum_itemD D he hit hg hne (by simpa using hne) fun v h' tk hv ho hit' hT hsz hk => ?_
    obtain ⟨c, u, hcx, rfl⟩ := hv
    refine ⟨_, rfl, wpAny_letOwnedTupleGo_enum (s := { s with heap := h', toks := tk + 1 }) ho fun h'' he' sb => ?_⟩
    have hT2 : h''.get? s.heap.objs.size = some { cls := .type "tuple", data := .seq #[.int i tk, .str ⟨#[c]⟩ u] } := (sb.2 _ (Nat.ne_of_gt hel)).trans hT
    have new : ObjOk X.prog X.w (upd H s.heap.objs.size (.tup [.int (i : Nat), .str ⟨#[c]⟩])) h'' s.heap.objs.size (.tup [.int (i : Nat), .str ⟨#[c]⟩]) :=
      ⟨by show 2 ≤ sizeLine; decide, [.int i tk, .str ⟨#[c]⟩ u], .cons ⟨_, rfl⟩ (.cons ⟨_, rfl⟩ .nil), ⟨_, hT2, rfl, _, rfl⟩⟩
    have I1 : Inv X pins σ (upd H s.heap.objs.size (.tup [.int (i : Nat), .str ⟨#[c]⟩])) { s with heap := h'', toks := tk + 1 } :=
      I.turnedNew (ch := [e, it]) (fun b ob hb q => (sb.2 b (fun z => hb (by simp [z]))).trans (hk b ob (fun z => hb (by simp [z])) (fun z => hb (by simp [z])) q)) hf (Nat.le_refl _) new
    refine ⟨.ref s.heap.objs.size, _, I1, rfl, ⟨_, c, hcx, rfl, I.hok.fresh (Nat.le_refl _), rfl⟩, ⟨⟨.str ⟨#[c]⟩ u, ?_⟩, ?_, hne, hg⟩, fun b hb => ?_⟩
    · have e1 : ((i + 1 : Nat) : Int) = (i : Int) + 1 := by omega
      rw [e1]; exact he'
    · obtain ⟨o, ho', r⟩ := hit'
      exact ⟨o, (sb.2 it (Ne.symm hne)).trans ho', r⟩
    · have hb' : b < s.heap.objs.size := by
        have e' : b = e ∨ b = it := by simpa using hb
        rcases e' with z | z
        · rw [z]; exact hel
        · rw [z]; exact hil
      rw [upd_ne (Nat.ne_of_lt hb')]
      exact (hf b hb).1
  done := by
    intro X hP hw hK hc i pins s σ H E I hf st hg
    subst hP hw hK
    obtain ⟨⟨old, he⟩, hit, hne, hle⟩ := st
    obtain ⟨f0, f1, f2, f3, f4, f5⟩ := hf it (by simp)
    have hg : x.cps.size ≤ i := hg
    have ei : i = x.cps.size := Nat.le_antisymm hle hg
    have D : Draws X.prog X.w X.A.in1 it [it] x.cps.size (SignAt x) (fun i h => h.IsStrIter it ty x t i) := by
      rcases hty with z | z
      · rw [z]; exact Draws.strAscii (A := X.A.in1) (I.ok.hd hc) it x t
      · rw [z]; exact Draws.strWide (A := X.A.in1) (I.ok.hd hc) it x t
    exact wpAny_pyNext_enum_endD D he (ei ▸ hit) fun h' eb => ⟨rfl, I.turned (t' := s.toks) (fun b o hb q => eb b o hb q) f0 f1 f3 f4 f5⟩
  self := fun A i s Q E st h => let ⟨⟨_, he⟩, _⟩ := st; wpAny_pyIter_enum he h
def iEnumS (ta : TA) : TI := fun σ H R => ta σ H fun vs H1 => ∃ x, vs = [.str x] ∧ R (Iten x) H1
theorem pi_enumS {X : Cx} {e : Expr} {ta : TA} {p pos tpos : Pos} {elts : List Expr} {kk : Nat} (hg : Gl X "enumerate") (hm : X.mg "enumerate" = none) (ha : PA X [e] ta) (hs : starEach [e] X.env = [(false, eval e X.env)] := by rfl) :
    PI X (.Tuple elts kk tpos) (.Call (.Name "enumerate" p) [e] [] pos) (iEnumS ta) := by
  refine ⟨fun pins s σ H R I h => ?_⟩
  refine Call_ (ld_blt I hg hm boot_enumerate (PyProof.Rows.callWith_type1 (thn (ha.run pos pins s σ H _ I h) fun us s1 ⟨vs, H1, I1, r1, q1⟩ => ?_) hs rfl))
  obtain ⟨x, ex, q⟩ := q1
  subst ex
  cases r1 with
  | cons r rr =>
    cases rr
    obtain ⟨t, rfl⟩ := r
    refine call_enumerate_str fun h' he hit hsz hk => wpAny_pyIter_enum he ?_
    have I2 : Inv X pins σ H1 { s1 with heap := h' } := I1.kept (t' := s1.toks) hk
    have hty : strIterType x = "str_ascii_iterator" ∨ strIterType x = "str_iterator" := by
      unfold strIterType
      split
      · exact .inl rfl
      · exact .inr rfl
    refine ⟨s1.heap.objs.size + 1, [s1.heap.objs.size + 1, s1.heap.objs.size], _, _, H1, rfl, I2, turn_enumS (s1.heap.objs.size + 1) s1.heap.objs.size x t _ hty, ⟨⟨.none, he⟩, hit, Nat.succ_ne_self _, Nat.zero_le _⟩, fun b hb => ?_, q⟩
    have e' : b = s1.heap.objs.size + 1 ∨ b = s1.heap.objs.size := by simpa using hb
    have hle : s1.heap.objs.size ≤ b := by
      rcases e' with z | z
      · rw [z]; exact Nat.le_add_right _ _
      · rw [z]; exact Nat.le_refl _
    exact I1.fpOk hle (I1.hok.fresh hle)
/-- enumerate of a list or a text -/
def iEnA (f : FA) : FI := fun S => (f S).bind fun os S => match forceAll os S with
  | some ([.str x], S2) => .ok (enumD (strSeq x)) S2
  | _ => .no
section
variable {X : Cx} {a : Expr} {pos : Pos}
theorem di_enumS {f : FA} {p tpos : Pos} {elts : List Expr} {kk : Nat} (hg : Gl X "enumerate") (hm : X.mg "enumerate" = none) (h : DA X f [a])
    (hs : starEach [a] X.env = [(false, eval a X.env)] := by rfl) : PI X (.Tuple elts kk tpos) (.Call (.Name "enumerate" p) [a] [] pos) (rdI X.K (iEnA f)) := by
  refine PI.imp (pi_enumS hg hm h hs) fun σ H R' ⟨F, O, S, ds, S', r, hf, k⟩ => ?_
  obtain ⟨os, S1, h1, h2⟩ := R.bind_ok hf
  refine ⟨F, O, S, os, S1, r, h1, fun vs H1 F1 O1 st1 r1 ro => ?_⟩
  cases ef : forceAll os S1 with
  | none => rw [ef] at h2; cases h2
  | some z =>
    obtain ⟨zs, S2⟩ := z
    rw [ef] at h2
    obtain ⟨F2, O2, st2, r2, rd⟩ := forceAll_ok r1 ro ef
    have key : ∃ x, zs = [.str x] ∧ R.ok (enumD (strSeq x)) S2 = R.ok ds S' := by
      split at h2
      · rename_i e; cases e; exact ⟨_, rfl, h2⟩
      · cases h2
    obtain ⟨x, rfl, h2⟩ := key
    cases h2
    match vs, rd with
    | [_], .cons (.str _) .nil =>
      refine ⟨x, rfl, k _ H1 F2 O2 (st1.trans st2) r2 ?_⟩
      have hl : (enumD (strSeq x)).length = x.cps.size := by unfold enumD strSeq; rw [List.length_mapIdx, List.length_map, Array.length_toList]
      refine ⟨fun i H F' l1 l2 hi => ?_, fun i H F' O σ S v H' rp l1 hi y => ?_, fun H F' l1 l2 => ?_⟩
      · rw [hl] at hi; exact hi
      · obtain ⟨T, c, hc, ev, hT, eH⟩ := y
        subst ev eH
        obtain ⟨st, r⟩ := rp.layF (o := .tup [.int i, .str ⟨#[c]⟩]) hT
        refine ⟨_, st, r, fun d hd' => ?_⟩
        unfold enumD strSeq at hd'
        rw [List.getElem?_mapIdx, List.getElem?_map, Array.getElem?_toList, hc] at hd'
        cases hd'
        exact .tup (.inl (.inl upd_same)) (.cons (.int _) (.cons (.str _) .nil))
      · show x.cps.size ≤ (enumD (strSeq x)).length
        rw [hl]; exact Nat.le_refl _
end
@[simp] theorem iEnA_ap (f : FA) (S : SS) : iEnA f S = (f S).bind fun os S => match forceAll os S with
  | some ([.str x], S2) => .ok (enumD (strSeq x)) S2
  | _ => .no := (rfl)

/-! ### dict displays -/
theorem putK_new {kvs : List (Key × V)} {k : Key} {v : V} (h : k ∉ kvs.map (·.1)) : putK kvs k v = kvs ++ [(k, v)] := by
  unfold putK
  rw [if_neg]
  intro e
  rw [List.any_eq_true] at e
  obtain ⟨p, hp, e⟩ := e
  exact h (List.mem_map.mpr ⟨p, hp, of_decide_eq_true e⟩)
theorem mergeK_new : ∀ (more kvs : List (Key × V)), (kvs.map (·.1) ++ more.map (·.1)).Nodup → mergeK kvs more = kvs ++ more
  | [], kvs, _ => by rw [List.append_nil]; rfl
  | p :: r, kvs, h => by
    have hp : p.1 ∉ kvs.map (·.1) := by
      intro z
      rw [List.map_cons, List.nodup_append] at h
      exact h.2.2 _ z _ (List.mem_cons_self ..) rfl
    show mergeK (putK kvs p.1 p.2) r = _
    rw [putK_new hp, mergeK_new r _ (by simpa using h)]
    simp
/-- keys and values of a display -/
def rdPs (K : PySem.W.Frag) (ks : List Key) (f : FA) : St → Hp → (List (V × V) → Hp → Prop) → Prop := fun σ H Q => rdA K f σ H fun vs H' => Q (List.zipWith (fun k v => (kV k, v)) ks vs) H'
structure DPs (X : Cx) (pos : Pos) (ks : List Key) (f : FA) (keys : List (Option Expr)) (values : List Expr) : Prop where
  ex : ∃ trs, PPs X pos keys values trs ∧ ∀ σ H Q, rdPs X.K ks f σ H Q → tPairs trs σ H Q
section
variable {X : Cx} {pos : Pos}
theorem dps_nil : DPs X pos [] aNil [] [] := ⟨[], pps_nil, fun σ H Q ⟨F, O, S, os, S', r, hf, k⟩ => by
  cases hf
  exact k [] H F O (Stp.refl _ _ _) r .nil⟩
theorem dps_cons {k : Key} {ks : List Key} {f : FE} {g : FA} {ke v : Expr} {keys : List (Option Expr)} {values : List Expr} (hk : PE X ke (tC (kV k))) (hv : DE X f v) (hr : DPs X pos ks g keys values) :
    DPs X pos (k :: ks) (aCons f g) (some ke :: keys) (v :: values) := by
  obtain ⟨trs, hp, h⟩ := hr.ex
  refine ⟨(tC (kV k), rdE X.K f) :: trs, pps_cons hk hv hp, fun σ H Q ⟨F, O, S, os, S', r, hf, kk⟩ => ?_⟩
  obtain ⟨o, S1, h1, h2⟩ := R.bind_ok hf
  obtain ⟨or, S2, h3, h4⟩ := R.bind_ok h2
  cases h4
  show rdE X.K f σ H _
  refine ⟨F, O, S, o, S1, r, h1, fun x H1 F1 O1 st1 r1 ro => ?_⟩
  refine h σ H1 _ ⟨F1, O1, S1, or, S', r1, h3, fun vs H2 F2 O2 st2 r2 rs => ?_⟩
  exact kk (x :: vs) H2 F2 O2 (st1.trans st2) r2 (.cons (ro.mono st2.ff) rs)
end
theorem Rp.claimK {K : PySem.W.Frag} {H F : Hp} {O : OW} {σ : St} {S : SS} {p : Addr} {ks : List Key} {vs' : List V} {ds : List D} (r : Rp K H F O σ S) (hF : F p = none) (hO : O p = none) (hH : H p = some (.dK (ks.zip vs'))) (hl : ks.length = vs'.length) (rd : RepDs K F vs' ds) :
    Rp K H F (ownR O p (.r, [])) σ S ∧ RepM K H F (ownR O p (.r, [])) (.r, []) (.ref p) (.dk (ks.zip ds)) := by
  have lo : ∀ {a : Addr} {q : Pl}, O a = some q → a ≠ p := fun {a q} e z => by rw [z, hO] at e; cases e
  refine ⟨⟨⟨r.bs.fh, fun a q e => ?_⟩, r.len, fun i m e => ?_⟩, p, ks, vs', ds, rfl, if_pos rfl, hH, hl, rd, rfl⟩
  · unfold ownR at e
    split at e
    · rename_i z; subst z; exact ⟨hF, _, hH⟩
    · exact r.bs.fo a q e
  · obtain ⟨v, hv, rm⟩ := r.sl i m e
    exact ⟨v, hv, rm.stay (Le.refl _) fun a u e1 e2 => ⟨e2, by unfold ownR; rw [if_neg (lo e1)]; exact e1⟩⟩
def mDk (ks : List Key) (f : FA) : FM := fun S => (f S).bind fun os S => match forceAll os S with
  | some (ds, S) => if ds.length = ks.length then .ok (.dk (ks.zip ds)) S else .no
  | none => .no
section
variable {X : Cx} {pos : Pos}
theorem dm_dk0 : DM X (mDk [] aNil) (.Dict [] [] pos) := PE.imp pe_dnewK fun σ H Q ⟨F, O, S, m, S', r, hf, k⟩ => by
  cases hf
  exact fun p hp => (r.wish fun w H4 F4 O4 st4 r4 rm => k w H4 F4 O4 st4 r4 rm).k [] [] p [] rfl rfl hp .nil
theorem dm_dk {ks : List Key} {f : FA} {keys : List (Option Expr)} {values : List Expr} (h : DPs X pos ks f keys values) (hn : ks.Nodup) (hall : keys.all (·.isSome) = true) (hl : keys.length = values.length) (h0 : keys ≠ [])
    (h15 : keys.length ≤ 15) (hk : ks.length ≤ 15) : DM X (mDk ks f) (.Dict keys values pos) := by
  obtain ⟨trs, hp, hd⟩ := h.ex
  refine PE.imp (pe_disp hp hall hl h0 h15) fun σ H Q ⟨F, O, S, m, S', r, hf, k⟩ => ?_
  obtain ⟨os, S1, h1, h2⟩ := R.bind_ok hf
  intro p hp
  obtain ⟨hF, hO⟩ := r.bs.free hp
  have r0 := Rp.limbo (o := .dK []) r hF hO
  have st0 : Stp H F O (upd H p (.dK [])) F O := (Stp.refl H F O).upd hp
  refine hd _ _ _ ⟨F, O, S, os, S1, r0, h1, fun vs H2 F2 O2 st2 r2 rs => ?_⟩
  obtain ⟨hH2, hF2, hO2⟩ := st2.limbo upd_same hF hO
  cases ef : forceAll os S1 with
  | none => rw [ef] at h2; cases h2
  | some z =>
    obtain ⟨ds, S2⟩ := z
    rw [ef] at h2
    have h2 : (if ds.length = ks.length then R.ok (M.dk (ks.zip ds)) S2 else .no) = .ok m S' := h2
    split at h2
    · rename_i hlen
      cases h2
      obtain ⟨F3, O3, st3, r3, rd⟩ := forceAll_ok r2 rs ef
      obtain ⟨hH3, hF3, hO3⟩ := st3.limbo hH2 hF2 hO2
      have hl2 : ks.length = vs.length := by rw [rd.len]; exact hlen.symm
      refine ⟨hH2, ks.zip vs, ?_, by rw [List.length_zip]; omega, ?_⟩
      · rw [List.zip, List.map_zipWith]
      · have em : mergeK [] (ks.zip vs) = ks.zip vs := by
          rw [mergeK_new]
          · rfl
          · rw [List.map_nil, List.nil_append, List.map_fst_zip (by omega)]
            exact hn
        rw [em]
        have st4 : Stp H F O (upd H2 p (.dK (ks.zip vs))) F3 O3 := (st0.trans (st2.trans st3)).upd hp
        obtain ⟨rc, rm⟩ := (Rp.limbo (o := .dK (ks.zip vs)) r3 hF3 hO3).claimK hF3 hO3 upd_same hl2 rd
        refine k (.ref p) _ F3 _ ⟨st4.ff, st4.kp, fun a q e => ?_, st4.fz, st4.al⟩ rc rm
        unfold ownR at e
        split at e
        · rename_i z; subst z; exact .inr hp
        · exact st4.nw a q e
    · cases h2
end
@[simp] theorem mDk_ap (ks : List Key) (f : FA) (S : SS) : mDk ks f S = (f S).bind fun os S => match forceAll os S with
  | some (ds, S) => if ds.length = ks.length then .ok (.dk (ks.zip ds)) S else .no
  | none => .no := (rfl)

def tl (x : Str) : List Nat := x.cps.toList
theorem tl_ext {x y : Str} (h : tl x = tl y) : x = y := TL.ext_tl h
theorem tl_mk (l : List Nat) : tl ⟨l.toArray⟩ = l := rfl
theorem tl_one (c : Nat) : tl ⟨#[c]⟩ = [c] := rfl
@[simp] theorem tl_app (x y : Str) : tl (x ++ y) = tl x ++ tl y := TL.tl_append x y
theorem tl_len (x : Str) : x.length = (tl x).length := (Array.length_toList).symm
@[simp] theorem len_app (x y : Str) : (x ++ y).length = x.length + y.length := PySem.Str.length_append x y
theorem tl_rep (x : Str) (k : Nat) : tl (repS x k) = (List.replicate k (tl x)).flatten := by
  show ((List.replicate k x.cps).foldl (· ++ ·) #[]).toList = _
  have key : ∀ (k : Nat) (a : Array Nat), ((List.replicate k x.cps).foldl (· ++ ·) a).toList = a.toList ++ (List.replicate k (tl x)).flatten := by
    intro k
    induction k with
    | zero => intro a; simp
    | succ k ih =>
      intro a
      rw [List.replicate_succ, List.foldl_cons, ih, Array.toList_append, List.replicate_succ, List.flatten_cons, List.append_assoc]
      rfl
  rw [key]
  simp
theorem tl_num (m : Nat) : tl (Str.ofString (toString (m : Int))) = (Nat.toDigits 10 m).map Char.toNat := PySem.W.KIN.signs_num m
theorem num_inj {m n : Nat} (h : Str.ofString (toString (m : Int)) = Str.ofString (toString (n : Int))) : m = n := by
  have e : tl (Str.ofString (toString (m : Int))) = tl (Str.ofString (toString (n : Int))) := by rw [h]
  rw [tl_num, tl_num] at e
  rw [← PySem.W.KIN.val_back m, ← PySem.W.KIN.val_back n, e]
theorem num_digits {n : Int} (h : 0 ≤ n) : ∀ c ∈ tl (Str.ofString (toString n)), 48 ≤ c ∧ c ≤ 57 := by
  obtain ⟨m, rfl⟩ := Int.eq_ofNat_of_zero_le h
  intro c hc
  rw [tl_num] at hc
  obtain ⟨ch, hch, e⟩ := List.mem_map.mp hc
  rw [← e]
  exact digit_range (Nat.isDigit_of_mem_toDigits (by decide) (by decide) hch)
theorem num_len {n : Int} (h0 : 0 ≤ n) (h1 : n < 10 ^ 10) : (Str.ofString (toString n)).length ≤ 10 := PySem.W.KT.len_num h0 h1
theorem cutS_tl (z : Str) (lo hi : Option Int) : tl (cutS z lo hi) = ((tl z).drop (HT.sIx (tl z).length 0 lo)).take (HT.sIx (tl z).length (tl z).length hi - HT.sIx (tl z).length 0 lo) := by
  rw [← tl_len]; rfl
theorem cutS_len (z : Str) (lo hi : Option Int) : (cutS z lo hi).length ≤ z.length := by
  rw [tl_len, tl_len z, cutS_tl, List.length_take, List.length_drop]
  omega
theorem cutS_mem {z : Str} {lo hi : Option Int} {c : Nat} (h : c ∈ tl (cutS z lo hi)) : c ∈ tl z := by
  rw [cutS_tl] at h
  exact List.mem_of_mem_drop (List.mem_of_mem_take h)
/-- what is left when a tail of such signs is taken off -/
def rdrop (p : Nat → Bool) (l : List Nat) : List Nat := (l.reverse.dropWhile p).reverse
theorem rstrip_tl (x y : Str) : tl (Txt.rstripChars x y) = rdrop (fun c => (tl y).contains c) (tl x) := by
  unfold Txt.rstripChars
  rw [stripBy_eq]
  show (x.cps.extract 0 (stripHi _ true x 0)).toList = _
  have e : (fun c => (tl y).contains c) = y.cps.contains := by
    funext c
    exact Array.contains_toList
  rw [e]
  unfold stripHi rdrop
  rw [if_pos rfl, Array.toList_extract, List.drop_zero]
  have key : ∀ (p : Nat → Bool) (l : List Nat), l.take (l.length - (l.reverse.takeWhile p).length) = (l.reverse.dropWhile p).reverse := by
    intro p l
    have h := List.takeWhile_append_dropWhile (p := p) (l := l.reverse)
    have h2 : l = (l.reverse.dropWhile p).reverse ++ (l.reverse.takeWhile p).reverse := by
      rw [← List.reverse_append, h, List.reverse_reverse]
    have h3 : l.length - (l.reverse.takeWhile p).length = (l.reverse.dropWhile p).reverse.length := by
      have := congrArg List.length h
      rw [List.length_append, List.length_reverse] at this
      rw [List.length_reverse]
      omega
    rw [h3]
    generalize (l.reverse.dropWhile p).reverse = a at h2
    rw [h2]
    simp
  have := key y.cps.contains (tl x)
  rw [← tl_len] at this
  have this2 : List.take (x.length - (List.takeWhile y.cps.contains x.cps.toList.reverse).length) x.cps.toList = (List.dropWhile y.cps.contains (tl x).reverse).reverse := this
  simpa [List.extract] using this2
theorem rdrop_app {p : Nat → Bool} {a b : List Nat} (hb : ∀ c ∈ b, p c = true) (ha : ∀ c ∈ a, p c = false) : rdrop p (a ++ b) = a := by
  unfold rdrop
  rw [List.reverse_append, List.dropWhile_append_of_pos (by simpa using hb)]
  have : a.reverse.dropWhile p = a.reverse := by
    cases h : a.reverse with
    | nil => rfl
    | cons c r =>
      have hc : c ∈ a := by
        have : c ∈ a.reverse := by rw [h]; exact List.mem_cons_self ..
        exact List.mem_reverse.mp this
      rw [List.dropWhile_cons_of_neg (by rw [ha c hc]; exact Bool.false_ne_true)]
  rw [this, List.reverse_reverse]
theorem asStrs_map : ∀ ns : List Str, asStrs (ns.map D.str) = some ns
  | [] => rfl
  | n :: ns => by
    show (asStrs (ns.map D.str)).map (n :: ·) = _
    rw [asStrs_map ns]
    rfl
theorem joinL_nil : ∀ l : List (List Nat), TL.joinL [] l = l.flatten
  | [] => rfl
  | [p] => by simp [TL.joinL]
  | p :: q :: r => by
    show p ++ ([] ++ TL.joinL [] (q :: r)) = _
    rw [joinL_nil (q :: r)]
    simp
theorem join_tl (ys : List Str) : tl (Txt.join "" ys) = (ys.map tl).flatten := by
  have e := TL.tl_join "" ys
  rw [TL.join_eq]
  refine e.trans ?_
  exact joinL_nil _
/-- a number's text -/
def num (i : Int) : Str := Str.ofString (toString i)
theorem num_i {m n : Int} (hm : 0 ≤ m) (hn : 0 ≤ n) (h : num m = num n) : m = n := by
  obtain ⟨a, rfl⟩ := Int.eq_ofNat_of_zero_le hm
  obtain ⟨b, rfl⟩ := Int.eq_ofNat_of_zero_le hn
  exact congrArg _ (num_inj h)
theorem num_d {n : Int} (h : 0 ≤ n) : ∀ c ∈ tl (num n), 48 ≤ c ∧ c ≤ 57 := num_digits h
theorem num_l {n : Int} (h0 : 0 ≤ n) (h1 : n < 10000000000) : (num n).length ≤ 10 := num_len h0 h1
theorem app_inj {s x y : Str} (h : s ++ x = s ++ y) : x = y := by
  have e : tl (s ++ x) = tl (s ++ y) := by rw [h]
  rw [tl_app, tl_app] at e
  exact tl_ext (List.append_cancel_left e)
@[simp] theorem strD_i (i : Int) : strD (.int i) = if -18446744073709551616 < i ∧ i < 18446744073709551616 then some (.d (.str (num i))) else none := (rfl)
@[simp] theorem strD_s (x : Str) : strD (.str x) = some (.d (.str x)) := (rfl)
theorem eq_of_wp {c : CR} {a : M} {S : List (Option M)} (q : c.wp fun r fin => r = a ∧ fin = S) : c = .ok a S := by
  obtain ⟨x, T, e, rfl, rfl⟩ := CR.wp_ok q
  exact e
/-! ### lists of texts -/
theorem any_str (x : Str) (ws : List Str) : ((ws.map D.str).any fun y => D.eqb y (.str x)) = decide (x ∈ ws) := by
  induction ws with
  | nil => rfl
  | cons w ws ih =>
    rw [List.map_cons, List.any_cons, ih, eqb_ss]
    by_cases h : w = x
    · subst h; simp
    · have : (w == x) = false := by simpa using h
      rw [this, Bool.false_or]
      simp [Ne.symm h]
theorem pls_strs (ws : List Str) : D.pls (ws.map .str) = true := pls_of fun d hd => by obtain ⟨b, _, rfl⟩ := List.mem_map.mp hd; rfl
theorem deps_strs (ws : List Str) : D.deps (ws.map .str) = 0 := Nat.le_zero.mp (deps_of fun d hd => by obtain ⟨b, _, rfl⟩ := List.mem_map.mp hd; exact Nat.le_refl _)
theorem inOk_strs (x : Str) (ws : List Str) : inOk (.str x) (ws.map .str) = true := by
  unfold inOk
  simp [pls_strs]
theorem inD_strs (x : Str) (ws : List Str) : inD (.str x) (.lst (ws.map .str)) = some (.d (.bl (decide (x ∈ ws)))) := by
  show (if inOk (.str x) (ws.map .str) = true then some (M.d (.bl ((ws.map D.str).any fun y => D.eqb y (.str x)))) else none) = _
  rw [if_pos (inOk_strs x ws), any_str]
theorem ninD_strs (x : Str) (ws : List Str) : ninD (.str x) (.lst (ws.map .str)) = some (.d (.bl (!decide (x ∈ ws)))) := by
  show (if inOk (.str x) (ws.map .str) = true then some (M.d (.bl (!(ws.map D.str).any fun y => D.eqb y (.str x)))) else none) = _
  rw [if_pos (inOk_strs x ws), any_str]
theorem eqbs_strs (ws : List Str) : D.eqbs (ws.map .str) (ws.map .str) = true := by
  induction ws with
  | nil => rfl
  | cons w ws ih => rw [List.map_cons, eqbs_cc, ih]; simp
def cutL {α : Type} (xs : List α) (lo hi : Option Int) : List α := (xs.drop (HT.sIx xs.length 0 lo)).take (HT.sIx xs.length xs.length hi - HT.sIx xs.length 0 lo)
theorem cutD_map {α : Type} (f : α → D) (xs : List α) (lo hi : Option Int) : cutD (xs.map f) lo hi = (cutL xs lo hi).map f := by
  unfold cutD cutL
  rw [List.length_map, ← List.map_drop, ← List.map_take]
theorem cutL_len {α : Type} (xs : List α) (lo hi : Option Int) : (cutL xs lo hi).length ≤ xs.length := by
  unfold cutL
  rw [List.length_take, List.length_drop]
  omega
theorem cutL_mem {α : Type} {x : α} {xs : List α} {lo hi : Option Int} (h : x ∈ cutL xs lo hi) : x ∈ xs := List.mem_of_mem_drop (List.mem_of_mem_take h)
theorem cut_mem {x : D} {xs : List D} {lo hi : Option Int} (h : x ∈ cutD xs lo hi) : x ∈ xs := List.mem_of_mem_drop (List.mem_of_mem_take h)
theorem cut_len (xs : List D) (lo hi : Option Int) : (cutD xs lo hi).length ≤ xs.length := by
  unfold cutD
  rw [List.length_take, List.length_drop]
  omega
theorem ne_nil (xs : List D) : neD (.lst xs) (.lst []) = some (.d (.bl (!xs.isEmpty))) := by
  cases xs with
  | nil => rfl
  | cons x xs =>
    unfold neD
    split
    · rfl
    · rfl
/-- so many unlike ones cannot all be among fewer -/
theorem pigeon {α : Type} [DecidableEq α] : ∀ (l ws : List α), l.Nodup → (∀ x ∈ l, x ∈ ws) → l.length ≤ ws.length
  | [], _, _, _ => Nat.zero_le _
  | x :: l, ws, hn, h => by
    have hx := h x (List.mem_cons_self ..)
    rw [List.nodup_cons] at hn
    have := pigeon l (ws.erase x) hn.2 fun y hy => by
      have hne : y ≠ x := fun e => hn.1 (e ▸ hy)
      exact (List.mem_erase_of_ne hne).mpr (h y (List.mem_cons_of_mem _ hy))
    rw [List.length_erase_of_mem hx] at this
    have : 0 < ws.length := List.length_pos_of_mem hx
    rw [List.length_cons]
    omega
mutual
theorem D.py_nd : ∀ d : D, d.pl = true → d.py.hasDict = false
  | .non, _ => rfl
  | .bl _, _ => rfl
  | .int _, _ => rfl
  | .str _, _ => rfl
  | .tup xs, h => D.pys_nd xs h
  | .lst xs, h => D.pys_nd xs h
theorem D.pys_nd : ∀ xs : List D, D.pls xs = true → PyData.hasDictAll (D.pys xs) = false
  | [], _ => rfl
  | x :: xs, h => by
    have h : (D.pl x && D.pls xs) = true := h
    rw [Bool.and_eq_true] at h
    show (PyData.hasDict (D.py x) || PyData.hasDictAll (D.pys xs)) = false
    rw [D.py_nd x h.1, D.pys_nd xs h.2]
    rfl
end
def rp (d : D) : Str := d.py.shown
def rpOk (d : D) : Bool := d.pl && d.py.showable && decide (d.dep ≤ 196) && decide ((rp d).length ≤ 16777216)
def reprD : D → Option M
  | .lst xs => if rpOk (.lst xs) = true then some (.d (.str (rp (.lst xs)))) else none
  | .tup xs => if rpOk (.tup xs) = true then some (.d (.str (rp (.tup xs)))) else none
  | _ => none
section
variable {X : Cx}
theorem repr_at {n : Nat} {pins : List (Addr × Obj)} {s : Shared} {σ : St} {H F : Hp} {a : Addr} {d : D} {us : List Value} {Q : VK} (hr : RoomG n X.A) (I : Inv X pins σ H s) (r : Vals [.ref a] us) (l : Le F H) (w : View X.K H F (.ref a) d) (h : rpOk d = true) (wi : Wish X.K H F (.d (.str (rp d))) Q) :
    wpAny (model X.prog X.w) X.A (call (.builtin "repr") us) (EP X pins σ Q) X.xe s := by
  unfold rpOk at h
  rw [Bool.and_eq_true, Bool.and_eq_true, Bool.and_eq_true] at h
  obtain ⟨⟨⟨h1, h2⟩, h3⟩, h4⟩ := h
  have h3 := of_decide_eq_true h3
  have h4 : d.py.shown.length ≤ 16777216 := of_decide_eq_true h4
  obtain ⟨u, rfl, rv⟩ := vals1 r
  obtain rfl : u = Value.ref a := rv
  obtain ⟨as, R⟩ := (w.dp l h1).reads I d.py (.ref a) (.ref a) rfl
  have hd := D.py_dep d h1
  have un := hr.rm.un
  refine PySem.repr_of_reads' R h2 (PyData.noDict_hsm (D.py_nd d h1)) hr.gd (by rw [hd]; omega) (fun _ _ e => e) (fun h' u tk hk => ?_) (by rw [sizeLine_eq]; exact h4)
  exact ⟨.str _, H, I.kept hk, ⟨u, rfl⟩, wi.str⟩
theorem cd_repr {n : Nat} (hr : RoomG n X.A) : CallR X (.builtin "repr") (semC X.K (on1 reprD)) := call1 fun pins s σ H F v x us m Q I r l wx e wi => by
  cases x with
  | lst ds =>
    obtain ⟨a, vs, rfl, h1, r1⟩ := wx.list l
    have e : (if rpOk (.lst ds) = true then some (M.d (.str (rp (.lst ds)))) else none) = some m := e
    split at e
    · rename_i h
      cases e
      exact repr_at hr I r l wx h wi
    · cases e
  | tup ds =>
    obtain ⟨a, vs, rfl, h1, r1⟩ := wx.tuple l
    have e : (if rpOk (.tup ds) = true then some (M.d (.str (rp (.tup ds)))) else none) = some m := e
    split at e
    · rename_i h
      cases e
      exact repr_at hr I r l wx h wi
    · cases e
  | _ => cases e
end
@[simp] theorem reprD_l (xs : List D) : reprD (.lst xs) = if rpOk (.lst xs) = true then some (.d (.str (rp (.lst xs)))) else none := (rfl)
@[simp] theorem reprD_t (xs : List D) : reprD (.tup xs) = if rpOk (.tup xs) = true then some (.d (.str (rp (.tup xs)))) else none := (rfl)
/-! ### how long what repr tells may be -/
mutual
def D.cst : D → Nat
  | .int _ => 25
  | .str x => 10 * x.length + 4
  | .tup xs => D.csts xs + 3
  | .lst xs => D.csts xs + 3
  | _ => 5
def D.csts : List D → Nat
  | [] => 0
  | x :: xs => D.cst x + 2 + D.csts xs
end
mutual
def D.fit : D → Bool
  | .non => true
  | .bl _ => true
  | .int i => decide (-18446744073709551616 < i ∧ i < 18446744073709551616)
  | .str x => x.cps.toList.all fun c => decide (c < 4294967296)
  | .tup xs => D.fits xs
  | .lst xs => D.fits xs
  | _ => false
def D.fits : List D → Bool
  | [] => true
  | x :: xs => D.fit x && D.fits xs
end
@[simp] theorem cst_int (i : Int) : D.cst (.int i) = 25 := (rfl)
@[simp] theorem cst_bl (b : Bool) : D.cst (.bl b) = 5 := (rfl)
@[simp] theorem cst_non : D.cst .non = 5 := (rfl)
@[simp] theorem cst_str (x : Str) : D.cst (.str x) = 10 * x.length + 4 := (rfl)
@[simp] theorem cst_tup (xs : List D) : D.cst (.tup xs) = D.csts xs + 3 := (rfl)
@[simp] theorem cst_lst (xs : List D) : D.cst (.lst xs) = D.csts xs + 3 := (rfl)
@[simp] theorem csts_n : D.csts [] = 0 := (rfl)
@[simp] theorem csts_c (x : D) (xs : List D) : D.csts (x :: xs) = D.cst x + 2 + D.csts xs := (rfl)
@[simp] theorem fit_non : D.fit .non = true := (rfl)
@[simp] theorem fit_bl (b : Bool) : D.fit (.bl b) = true := (rfl)
@[simp] theorem fit_int (i : Int) : D.fit (.int i) = decide (-18446744073709551616 < i ∧ i < 18446744073709551616) := (rfl)
@[simp] theorem fit_tup (xs : List D) : D.fit (.tup xs) = D.fits xs := (rfl)
@[simp] theorem fit_lst (xs : List D) : D.fit (.lst xs) = D.fits xs := (rfl)
@[simp] theorem fits_n : D.fits [] = true := (rfl)
@[simp] theorem fits_c (x : D) (xs : List D) : D.fits (x :: xs) = (D.fit x && D.fits xs) := (rfl)
theorem listText_le (ts : List Str) : (listText ts).length ≤ piled ts + 3 := by
  cases ts with
  | nil => decide +kernel
  | cons t r =>
    have h := textFrom_length_pos r 1 (("[" : Str) ++ (if (0 : Nat) > 0 then ", " else "" : String) ++ t) (Nat.succ_pos 0)
    have e : ((("[" : Str) ++ (if (0 : Nat) > 0 then ", " else "" : String) ++ t)).length = 1 + t.length := by
      rw [strLen_append, strLen_append]; rfl
    have hX : (listText (t :: r)).length = (textFrom 1 (("[" : Str) ++ (if (0 : Nat) > 0 then ", " else "" : String) ++ t) r).length + 1 := by
      show (textFrom 0 "[" (t :: r) ++ "]").length = _
      rw [strLen_append]; rfl
    rw [hX, h, e, piled_cons]
    omega
mutual
theorem fit_ok : ∀ d : D, d.fit = true → d.pl = true ∧ d.py.showable = true ∧ (d.py.shown).length ≤ d.cst
  | .non, _ => ⟨rfl, rfl, by show ("None" : Str).length ≤ 5; decide +kernel⟩
  | .bl b, _ => ⟨rfl, rfl, by cases b <;> decide +kernel⟩
  | .int i, h => by
    have h := of_decide_eq_true (show decide (-18446744073709551616 < i ∧ i < 18446744073709551616) = true from h)
    refine ⟨rfl, ?_, ?_⟩
    · show decide (i.natAbs.log2 < 1920) = true
      exact decide_eq_true (Nat.lt_of_lt_of_le (PySem.Flt.log2_lt_of (k := 64) (by decide) (by omega)) (by decide))
    · have e := int_text_length_le10 (a := i) (k := 20) (by decide) (by omega)
      show (Str.ofString (toString i)).length ≤ 25
      rw [PySem.ofString_length]
      omega
  | .str x, h => by
    have h : (x.cps.toList.all fun c => decide (c < 4294967296)) = true := h
    refine ⟨rfl, rfl, ?_⟩
    have e := StrLaws.reprText_len x fun c hc => by
      have := of_decide_eq_true (List.all_eq_true.mp h c hc)
      have : (16 : Nat) ^ 8 = 4294967296 := by decide
      omega
    show (reprText x).length ≤ 10 * x.length + 4
    omega
  | .tup xs, h => by
    obtain ⟨h1, h2, h3⟩ := fits_ok xs h
    refine ⟨h1, h2, ?_⟩
    have e := fmt_text (PyData.shownAll (D.pys xs))
    show (tupleText (PyData.shownAll (D.pys xs))).length ≤ D.csts xs + 3
    omega
  | .lst xs, h => by
    obtain ⟨h1, h2, h3⟩ := fits_ok xs h
    refine ⟨h1, h2, ?_⟩
    have e := listText_le (PyData.shownAll (D.pys xs))
    show (listText (PyData.shownAll (D.pys xs))).length ≤ D.csts xs + 3
    omega
theorem fits_ok : ∀ xs : List D, D.fits xs = true → D.pls xs = true ∧ PyData.showableAll (D.pys xs) = true ∧ piled (PyData.shownAll (D.pys xs)) ≤ D.csts xs
  | [], _ => ⟨rfl, rfl, Nat.le_refl _⟩
  | x :: xs, h => by
    have h : (D.fit x && D.fits xs) = true := h
    rw [Bool.and_eq_true] at h
    obtain ⟨a1, a2, a3⟩ := fit_ok x h.1
    obtain ⟨b1, b2, b3⟩ := fits_ok xs h.2
    refine ⟨?_, ?_, ?_⟩
    · show (D.pl x && D.pls xs) = true
      rw [a1, b1]; rfl
    · show (PyData.showable (D.py x) && PyData.showableAll (D.pys xs)) = true
      rw [a2, b2]; rfl
    · show piled (PyData.shown (D.py x) :: PyData.shownAll (D.pys xs)) ≤ D.cst x + 2 + D.csts xs
      rw [piled_cons]
      omega
end
theorem rpOk_of {d : D} (h : d.fit = true) (h2 : d.dep ≤ 196) (h3 : d.cst ≤ 16777216) : rpOk d = true := by
  obtain ⟨a1, a2, a3⟩ := fit_ok d h
  unfold rpOk
  rw [a1, a2, decide_eq_true h2, decide_eq_true (show (rp d).length ≤ 16777216 from Nat.le_trans a3 h3)]
  rfl
section
variable {prog : Program} {w : World} {A : Around} {E : Value → Shared → Prop} {s : Shared}
/-- a list unpacked with a star: the items ahead, those of the star, those behind -/
theorem unp_star {l : Addr} {items : Array Value} {n i : Nat} {Q : List Value → Shared → Prop} (hl : s.heap.IsList l items) (hh : A.handled = none) (hi : i < n) (hn : n ≤ items.size + 1) (hz : items.size ≤ 16384)
    (h : ∀ (h' : Heap) (tk : Nat), (∀ b o, s.heap.get? b = some o → h'.get? b = some o) → Q (items.toList.take i ++ [.ref h'.objs.size] ++ (items.toList.drop i).drop (items.size + 1 - n)) { s with heap := h'.push { cls := .type "list", data := .seq ((items.toList.drop i).take (items.size + 1 - n)).toArray }, toks := tk }) :
    wpAny (model prog w) A (unpackItems (.ref l) n (some i)) Q E s := by
  obtain ⟨ol, hol, _⟩ := id hl
  have lt := Heap.lt_size hol
  have hlt : l ≠ s.heap.objs.size := Nat.ne_of_lt lt
  unfold unpackItems notIterableAtAll
  refine wpAny_bind (wpAny_bind (wpAny_specialOf hl.typeIs slot_list_iter.lookup (wpAny_pure ?_)))
  simp only [Bool.false_eq_true, if_false]
  refine wpAny_bind (wpAny_holding (wpAny_pyIter_list hl ?_))
  refine wpAny_bind (wpAny_holding (PySem.W.kun_draw hlt i 0 _ _ ⟨_, Heap.get?_push_size _ rfl, rfl, rfl⟩ (hl.push _) (by omega) fun h₁ hit₁ hs₁ => ?_))
  have hl₁ : h₁.IsList l items := (hl.push _).extBut hs₁.extBut hlt
  rw [Nat.zero_add] at hit₁
  obtain ⟨oi, hoi, _⟩ := id hit₁
  obtain ⟨o1, ho1, _⟩ := id hl₁
  have hfl : (items.toList.take i).length = i := by rw [List.length_take, Array.length_toList]; omega
  have hrl : (items.toList.drop i).length = items.size - i := by rw [List.length_drop, Array.length_toList]
  have hmid : (items.toList.drop i).length - (n - 1 - i) = items.size + 1 - n := by rw [hrl]; omega
  rw [List.drop_zero, if_neg (show ¬ ((items.toList.take i).length < i) by rw [hfl]; omega)]
  refine wpAny_bind (wpAny_holding (PySem.W.kun_collect (s := { s with heap := h₁ }) (T := "list_iterator") (.inr (.inr (.inl rfl))) (Walks.list (A := A.in1) hh s.heap.objs.size l hlt items) (fun j u st => st.1.typeIs) (k := i) (by omega) ⟨hit₁, hl₁⟩ (Heap.lt_size hoi) (Heap.lt_size ho1) (fun h₂ tk hk => ?_) (by rw [sizeLine_eq]; omega)))
  show wpAny _ _ (if (items.toList.drop i).length < n - 1 - i then _ else _) _ _ _
  rw [if_neg (by rw [hrl]; omega)]
  show wpAny _ _ (newList ((items.toList.drop i).take ((items.toList.drop i).length - (n - 1 - i))) >>= fun d => pure (items.toList.take i ++ [d] ++ (items.toList.drop i).drop ((items.toList.drop i).length - (n - 1 - i)))) _ _ _
  rw [hmid]
  refine wpAny_bind (wpAny_newList (wpAny_pure (h h₂ tk fun b o e => ?_)) (by rw [List.length_take, hrl, sizeLine_eq]; omega))
  have hb : b ≠ s.heap.objs.size := Nat.ne_of_lt (Heap.lt_size e)
  exact hk b o hb (hs₁.extBut b o hb (Heap.get?_push_of_some _ e))
end
theorem vals_take : ∀ {xs : List V} {us : List Value} (n : Nat), Vals xs us → Vals (xs.take n) (us.take n)
  | _, _, 0, _ => by rw [List.take_zero, List.take_zero]; exact .nil
  | _, _, n + 1, .nil => .nil
  | _, _, n + 1, .cons a r => .cons a (vals_take n r)
theorem vals_drop : ∀ {xs : List V} {us : List Value} (n : Nat), Vals xs us → Vals (xs.drop n) (us.drop n)
  | _, _, 0, r => r
  | _, _, n + 1, .nil => .nil
  | _, _, n + 1, .cons a r => vals_drop n r
theorem vals_ref1 (p : Addr) : Vals [.ref p] [.ref p] := .cons (show RelV (V.ref p) (Value.ref p) from rfl) .nil
/-- targets with a star at i, n of them -/
def gStar (K : PySem.W.Frag) (i n : Nat) (t : TGs) : TG := fun v σ H Q => ∃ l xs, v = .ref l ∧ SqL K H l xs ∧ n ≤ xs.length + 1 ∧ xs.length ≤ 16384 ∧
  ∀ p, H p = none → t (xs.take i ++ [.ref p] ++ (xs.drop i).drop (xs.length + 1 - n)) σ (upd H p (.lst ((xs.drop i).take (xs.length + 1 - n)))) Q
section
variable {X : Cx}
theorem pg_star {es es' : List Expr} {k n i : Nat} {t : TGs} {pos : Pos} (hc : X.calm = true) (h : PGs X es' t) (hi : i < n) (hm : (assignEach es X.env).map (·.2) = (assignEach es' X.env).map (·.2) := by rfl) (hn : (assignEach es X.env).length = n := by rfl)
    (hst : (assignEach es X.env).findIdx? (·.1) = some i := by rfl) : PG X (.Tuple es k pos) (gStar X.K i n t) := by
  refine ⟨fun pins s σ H v u Q I r ⟨l, xs, e1, hq, h1, h2, hw⟩ => ?_⟩
  subst e1
  cases r
  obtain ⟨its, rv, hl, hz⟩ := I.list hq
  have el := rv.length
  have es_ : its.toArray.size = xs.length := by rw [List.size_toArray, el]
  rw [assign_Tuple]
  refine wpAny_bind (wpAny_standAt ?_)
  unfold unpack
  rw [hn, hst]
  refine wpAny_bind (wpAny_holding (unp_star hl.isList (I.ok.hd hc) hi (by rw [es_]; exact h1) (by rw [es_]; exact h2) fun h' tk hk => ?_))
  rw [hm]
  have I1 : L2.Inv X pins σ H { s with heap := h', toks := tk } := I.kept hk
  rw [es_]
  have mid := vals_take (xs.length + 1 - n) (vals_drop i rv)
  refine h.run pins _ σ _ _ _ Q (I1.laid (a := h'.objs.size) (o := .lst ((xs.drop i).take (xs.length + 1 - n))) (t' := tk) (fun b u e => Heap.get?_push_of_some _ e) (Nat.le_refl _) ?_) ?_ (hw h'.objs.size (I1.hok.fresh (Nat.le_refl _)))
  · exact ⟨by rw [List.length_take, sizeLine_eq]; omega, _, 0, mid, Heap.get?_push_size _ rfl⟩
  · exact ((vals_take i rv).append (vals_ref1 _)).append (vals_drop _ (vals_drop i rv))
end
/-- a, *b = e -/
def sStarR (i j : Nat) (f : FE) : FS := fun S => (f S).bind fun o S => match o.get S with
  | some (.lst (x :: xs)) => if xs.length ≤ 16000 then .ok .nx ((S.set i (some (.d x))).set j (some (.lst xs))) else .no
  | _ => .no
/-- *b, a = e: the list's reverse is given -/
def sStarL (j i : Nat) (f : FE) : FS := fun S => (f S).bind fun o S => match o.get S with
  | some (.lst xs) => (match xs.getLast? with
    | some x => if xs.length ≤ 16000 then .ok .nx ((S.set j (some (.lst xs.dropLast))).set i (some (.d x))) else .no
    | none => .no)
  | _ => .no
theorem RepDs.last {K : PySem.W.Frag} {F : Hp} : ∀ {vs : List V} {ds : List D} {x : D}, RepDs K F vs ds → ds.getLast? = some x → ∃ v, vs = vs.dropLast ++ [v] ∧ RepD K F v x
  | [], [], x, _, h => by cases h
  | [v], [d], x, .cons a .nil, h => by
    cases h
    exact ⟨_, rfl, a⟩
  | v :: w :: vs, d :: d2 :: ds, x, .cons a r, h => by
    rw [List.getLast?_cons_cons] at h
    obtain ⟨z, e, hz⟩ := RepDs.last r h
    refine ⟨z, ?_, hz⟩
    rw [List.dropLast_cons₂, List.cons_append, ← e]
section
variable {X : Cx} {kp : Nat → Bool} {e : Expr} {pos pt : Pos} {x y : Str} {px py ps : Pos} {kt : Nat}
theorem ds_starR {i j : Nat} {f : FE} (hc : X.calm = true) (hN : X.N.Nodup) (hi : X.N[i]? = some x) (hj : X.N[j]? = some y)
    (hx : X.env.scope.names.lookup x = some .local) (hy : X.env.scope.names.lookup y = some .local) (hki : kp i = false) (hkj : kp j = false) (he : DE X f e)
    (hs : swapsWithSole [.Tuple [.Name x px, .Starred (.Name y py) ps] kt pt] e pos.line X.env = pure false := by rfl) (hw : swappedStores [.Tuple [.Name x px, .Starred (.Name y py) ps] kt pt] e X.env = pure none := by rfl) :
    DS X kp (sStarR i j f) (.Assign [.Tuple [.Name x px, .Starred (.Name y py) ps] kt pt] e pos) :=
  PS.imp (ps_asg he (pg_star (i := 1) (n := 2) (es' := [.Name x px, .Name y py]) hc (pgs_cons (pg_name (i := i) hN hi (.inl hx) (.inr hx)) (pgs_cons (pg_name (i := j) hN hj (.inl hy) (.inr hy)) pgs_nil)) (by decide)) hs hw) fun D σ H ⟨F, O, S, fl, S', r, hf, k⟩ => by
    obtain ⟨o, S1, h1, h2⟩ := R.bind_ok hf
    refine ⟨F, O, S, o, S1, r, h1, fun v H1 F1 O1 st1 r1 ro => ?_⟩
    cases eg : o.get S1 with
    | none => rw [eg] at h2; cases h2
    | some d =>
      rw [eg] at h2
      cases d with
      | lst ds =>
        cases ds with
        | nil => cases h2
        | cons a ds =>
          obtain ⟨p, vs, rfl, h3, r3⟩ := (r1.view ro eg).list r1.bs.fh
          cases r3 with
          | cons ra rr =>
            rename_i va vr
            have h2 : (if ds.length ≤ 16000 then R.ok Fl.nx ((S1.set i (some (.d a))).set j (some (.lst ds))) else .no) = R.ok fl S' := h2
            split at h2
            · rename_i hl
              cases h2
              have el := rr.len
              refine ⟨p, va :: vr, rfl, .inl h3, by simp, by simp; omega, fun q hq => ?_⟩
              have e1 : ((va :: vr).drop 1).take ((va :: vr).length + 1 - 2) = vr := by simp
              have e2 : (va :: vr).take 1 ++ [V.ref q] ++ ((va :: vr).drop 1).drop ((va :: vr).length + 1 - 2) = [va, .ref q] := by simp
              rw [e1, e2]
              refine ⟨va, _, rfl, _, _, rfl, rfl, ?_⟩
              refine (r1.wish (m := .lst ds) (Q := fun w H' => D.nx ((σ.set i (some va)).set j (some w)) H') fun w H4 F4 O4 st4 r4 rm => ?_).l ds q vr rfl hq rr
              exact k _ H4 F4 _ ((st1.trans st4).trans mv_stp) ((r4.putD (ra.mono st4.ff)).put rm) ((Kp.set hki).trans (Kp.set hkj))
            · cases h2
      | _ => cases h2
theorem ds_starL {i j : Nat} {f : FE} (hc : X.calm = true) (hN : X.N.Nodup) (hi : X.N[i]? = some x) (hj : X.N[j]? = some y)
    (hx : X.env.scope.names.lookup x = some .local) (hy : X.env.scope.names.lookup y = some .local) (hki : kp i = false) (hkj : kp j = false) (he : DE X f e)
    (hs : swapsWithSole [.Tuple [.Starred (.Name y py) ps, .Name x px] kt pt] e pos.line X.env = pure false := by rfl) (hw : swappedStores [.Tuple [.Starred (.Name y py) ps, .Name x px] kt pt] e X.env = pure none := by rfl) :
    DS X kp (sStarL j i f) (.Assign [.Tuple [.Starred (.Name y py) ps, .Name x px] kt pt] e pos) :=
  PS.imp (ps_asg he (pg_star (i := 0) (n := 2) (es' := [.Name y py, .Name x px]) hc (pgs_cons (pg_name (i := j) hN hj (.inl hy) (.inr hy)) (pgs_cons (pg_name (i := i) hN hi (.inl hx) (.inr hx)) pgs_nil)) (by decide)) hs hw) fun D σ H ⟨F, O, S, fl, S', r, hf, k⟩ => by
    obtain ⟨o, S1, h1, h2⟩ := R.bind_ok hf
    refine ⟨F, O, S, o, S1, r, h1, fun v H1 F1 O1 st1 r1 ro => ?_⟩
    cases eg : o.get S1 with
    | none => rw [eg] at h2; cases h2
    | some d =>
      rw [eg] at h2
      cases d with
      | lst ds =>
        obtain ⟨p, vs, rfl, h3, r3⟩ := (r1.view ro eg).list r1.bs.fh
        cases el : ds.getLast? with
        | none =>
          have h2 : (match ds.getLast? with | some x => _ | none => R.no) = R.ok fl S' := h2
          rw [el] at h2
          cases h2
        | some a =>
          have h2 : (match ds.getLast? with | some x => (if ds.length ≤ 16000 then R.ok Fl.nx ((S1.set j (some (.lst ds.dropLast))).set i (some (.d x))) else .no) | none => R.no) = R.ok fl S' := h2
          rw [el] at h2
          have h2 : (if ds.length ≤ 16000 then R.ok Fl.nx ((S1.set j (some (.lst ds.dropLast))).set i (some (.d a))) else .no) = R.ok fl S' := h2
          split at h2
          · rename_i hl
            cases h2
            obtain ⟨va, ev, ra⟩ := r3.last el
            have rr := r3.dropLast
            have ln := r3.len
            have hpos : 1 ≤ vs.length := by rw [ev]; simp
            refine ⟨p, vs, rfl, .inl h3, by omega, by omega, fun q hq => ?_⟩
            have e1 : (vs.drop 0).take (vs.length + 1 - 2) = vs.dropLast := by rw [List.drop_zero, List.dropLast_eq_take]; rfl
            have e2 : vs.take 0 ++ [V.ref q] ++ (vs.drop 0).drop (vs.length + 1 - 2) = [.ref q, va] := by
              rw [List.take_zero, List.drop_zero]
              have : vs.drop (vs.length + 1 - 2) = [va] := by
                have h := congrArg (List.drop vs.dropLast.length) ev
                rw [List.drop_left, List.length_dropLast] at h
                exact h
              rw [this]
              rfl
            rw [e1, e2]
            refine ⟨_, _, rfl, va, _, rfl, rfl, ?_⟩
            refine (r1.wish (m := .lst ds.dropLast) (Q := fun w H' => D.nx ((σ.set j (some w)).set i (some va)) H') fun w H4 F4 O4 st4 r4 rm => ?_).l _ q _ rfl hq rr
            exact k _ H4 F4 _ ((st1.trans st4).trans mv_stp) ((r4.put rm).putD (ra.mono st4.ff)) ((Kp.set hkj).trans (Kp.set hki))
          · cases h2
      | _ => cases h2
end
@[simp] theorem sStarR_ap (i j : Nat) (f : FE) (S : SS) : sStarR i j f S = (f S).bind fun o S => match o.get S with
  | some (.lst (x :: xs)) => if xs.length ≤ 16000 then .ok .nx ((S.set i (some (.d x))).set j (some (.lst xs))) else .no
  | _ => .no := (rfl)
@[simp] theorem sStarL_ap (i j : Nat) (f : FE) (S : SS) : sStarL j i f S = (f S).bind fun o S => match o.get S with
  | some (.lst xs) => (match xs.getLast? with
    | some x => if xs.length ≤ 16000 then .ok .nx ((S.set j (some (.lst xs.dropLast))).set i (some (.d x))) else .no
    | none => .no)
  | _ => .no := (rfl)
/-! ### x.reverse() -/
def rReverse : V → List V → Hp → VK → Prop := fun x vs H Q => ∃ l xs, x = .ref l ∧ vs = [] ∧ H l = some (.lst xs) ∧ Q .non (upd H l (.lst xs.reverse))
section
variable {X : Cx}
theorem mt_reverse : MtM X "list.reverse" rReverse := by
  intro pins s σ H x vs v us Q I rx rv h
  obtain ⟨l, xs, rfl, rfl, hH, q⟩ := h
  cases rx
  have hus := rv.zero
  subst hus
  obtain ⟨z, its, n, r, hl, e⟩ := I.lstM hH
  refine call_meets PySem.F.slot_list_reverse ⟨_, e, rfl⟩ PySem.F.entry_list_reverse (PySem.F.args_list_reverse_1 _) (PySem.AutoListH.list_reverse_list_0 l its.toArray n (by rw [List.size_toArray]; omega)) ⟨e, ?_⟩
  refine ⟨.non, _, I.lset (its' := its.reverse) hH e (by simp) r.reverse ?_, rfl, q⟩
  rw [List.length_reverse]
  omega
def mRevI (j : Nat) : FM := fun S => match S.at j with
  | some (.lst xs) => .ok (.d .non) (S.set j (some (.lst xs.reverse)))
  | _ => .no
theorem dm_reverse {j : Nat} {o : Expr} {apos cpos : Pos} (ho : PE X o (tVar j)) (hbase : attributeBase o "reverse" X.env (eval o X.env) = eval o X.env := by rfl) (hline : (apos.endLine == cpos.line) = true := by rfl) :
    DM X (mRevI j) (.Call (.Attribute o "reverse" apos) [] [] cpos) :=
  PE.imp (pe_bm0 PySem.F.plainAttrs_list PySem.F.slot_list_reverse PySem.F.type_list_reverse mt_reverse ho hbase hline) fun σ H Q ⟨F, O, S, m, S', r, hf, k⟩ => by
    unfold mRevI at hf
    split at hf
    · rename_i xs em
      cases hf
      obtain ⟨a, vs, hv, hH, rv, chg⟩ := r.mut em
      obtain ⟨st3, r3⟩ := chg vs.reverse xs.reverse rv.reverse
      exact ⟨_, hv, r.isL (by rw [em]; rfl) hv, a, vs, rfl, rfl, hH, k _ _ _ _ st3 r3 .non⟩
    · cases hf
end
@[simp] theorem mRevI_ap (j : Nat) (S : SS) : mRevI j S = match S.at j with
  | some (.lst xs) => .ok (.d .non) (S.set j (some (.lst xs.reverse)))
  | _ => .no := (rfl)

def tabAt : List (Str × Int) → Str → Option Int
  | [], _ => none
  | (k, i) :: r, x => if k = x then some i else tabAt r x
def tabIs (w : World) : List DictEntry → List (Str × Int) → Prop
  | [], [] => True
  | e :: es, (k, i) :: kvs => (e.hash = hashStr w k ∧ (∃ t, e.key = .str k t) ∧ ∃ t, e.val = .int i t) ∧ tabIs w es kvs
  | _, _ => False
def tabV : List DictEntry → List (Str × Int) → List (Str × Value)
  | e :: es, (k, _) :: kvs => (k, e.val) :: tabV es kvs
  | _, _ => []
theorem isStrOf_self (k : Str) (t : Tok) : Value.isStrOf k (.str k t) = true := by
  show (k == k) = true
  exact beq_self_eq_true k
theorem tab_keys {w : World} : ∀ {es : List DictEntry} {kvs : List (Str × Int)}, tabIs w es kvs → (tabV es kvs).map (·.1) = kvs.map (·.1)
  | [], [], _ => rfl
  | e :: es, (k, i) :: kvs, h => congrArg (k :: ·) (tab_keys h.2)
theorem tab_pairs {P : Program} {w : World} : ∀ {es : List DictEntry} {kvs : List (Str × Int)}, tabIs w es kvs → Pairs (strKind P w) es (tabV es kvs)
  | [], [], _ => .nil
  | e :: es, (k, i) :: kvs, h => by
    obtain ⟨⟨_, ⟨t, hk⟩, _⟩, h2⟩ := h
    exact .cons (by rw [hk]; exact isStrOf_self k t) rfl (tab_pairs h2)
theorem tab_of {P : Program} {w : World} : ∀ {es : List DictEntry} {kvs : List (Str × Int)}, tabIs w es kvs → ∀ e ∈ es, ∃ k, (strKind P w).is k e.key = true ∧ e.hash = (strKind P w).hash k
  | [], [], _, e, h => by cases h
  | d :: es, (k, i) :: kvs, h, e, he => by
    rcases List.mem_cons.mp he with rfl | he
    · obtain ⟨⟨hh, ⟨t, hk⟩, _⟩, h2⟩ := h
      exact ⟨k, by rw [hk]; exact isStrOf_self k t, hh⟩
    · exact tab_of h.2 e he
theorem tab_val {w : World} (x : Str) : ∀ {es : List DictEntry} {kvs : List (Str × Int)}, tabIs w es kvs →
    match tabAt kvs x with
    | some i => ∃ t, valueAt (tabV es kvs) x = some (.int i t)
    | none => valueAt (tabV es kvs) x = none
  | [], [], _ => rfl
  | e :: es, (k, i) :: kvs, h => by
    obtain ⟨⟨_, _, ⟨t, hv⟩⟩, h2⟩ := h
    have ih := tab_val x h2
    unfold tabAt
    by_cases hk : k = x
    · rw [if_pos hk]
      refine ⟨t, ?_⟩
      show Option.map _ (List.find? _ ((k, e.val) :: tabV es kvs)) = _
      rw [List.find?_cons_of_pos (by simpa using hk)]
      show some e.val = _
      rw [hv]
    · rw [if_neg hk]
      have e1 : valueAt (tabV (e :: es) ((k, i) :: kvs)) x = valueAt (tabV es kvs) x := by
        show Option.map _ (List.find? _ ((k, e.val) :: tabV es kvs)) = _
        rw [List.find?_cons_of_neg (by simpa using hk)]
        rfl
      rw [e1]
      exact ih
/-- a global that is such a table -/
def TabG (w : World) (K : PySem.W.Frag) (mg : Str → Option Value) (x : Str) (kvs : List (Str × Int)) : Prop :=
  ∃ a o es ep, mg x = some (.ref a) ∧ K.lookup a = some o ∧ o.ExactDict ∧ o.data = .dict es ep ∧ tabIs w es.toList kvs ∧ (a == sysModules) = false ∧ (kvs.map (·.1)).Nodup
theorem tab_dict {P : Program} {w : World} {K : PySem.W.Frag} {h : Heap} {a : Addr} {o : Obj} {es : Array DictEntry} {ep : Nat} {kvs : List (Str × Int)} (hk : h.get? a = some o) (he : o.ExactDict) (hd : o.data = .dict es ep)
    (ht : tabIs w es.toList kvs) (hn : (kvs.map (·.1)).Nodup) : Heap.DictOf (strKind P w) h a (tabV es.toList kvs) :=
  ⟨o, es, ep, hk, he, hd, fun e he => tab_of ht e (by simpa using he), tab_pairs ht, by rw [tab_keys ht]; exact hn⟩
def inT (kvs : List (Str × Int)) : D → D → Option M := fun x _ => match x with
  | .str s => some (.d (.bl (tabAt kvs s).isSome))
  | _ => none
def ninT (kvs : List (Str × Int)) : D → D → Option M := fun x _ => match x with
  | .str s => some (.d (.bl (!(tabAt kvs s).isSome)))
  | _ => none
def ixT (kvs : List (Str × Int)) : D → D → Option M := fun _ y => match y with
  | .str s => (tabAt kvs s).map fun i => .d (.int i)
  | _ => none
@[simp] theorem inT_ap (kvs : List (Str × Int)) (s : Str) (y : D) : inT kvs (.str s) y = some (.d (.bl (tabAt kvs s).isSome)) := (rfl)
@[simp] theorem ninT_ap (kvs : List (Str × Int)) (s : Str) (y : D) : ninT kvs (.str s) y = some (.d (.bl (!(tabAt kvs s).isSome))) := (rfl)
@[simp] theorem ixT_ap (kvs : List (Str × Int)) (s : Str) (y : D) : ixT kvs y (.str s) = (tabAt kvs s).map fun i => .d (.int i) := (rfl)
section
variable {X : Cx} {e a b : Expr} {pos pos' : Pos} {x : Str} {kvs : List (Str × Int)}
theorem bin_rd1 {K : PySem.W.Frag} {g : D → D → Option M} {fa : FE} {r : R2} {va : V} (hr : ∀ (H F : Hp) (v : V) (x : D) (m : M) (Q : VK), Le F H → View K H F v x → g x .non = some m → Wish K H F m Q → r v va H Q)
    {σ : St} {H : Hp} {Q : VK} (h : rdM K (mBin g fa (eC .non)) σ H Q) : tOp r (rdE K fa) (tC va) σ H Q := by
  obtain ⟨F, O, S, m, S', rp, hf, k⟩ := h
  obtain ⟨a, S1, h1, h2⟩ := R.bind_ok hf
  obtain ⟨b, S2, h3, h4⟩ := R.bind_ok h2
  obtain ⟨e4, x, y, ex, ey, eg⟩ := onD_ok h4
  subst e4
  cases h3
  have ey : some D.non = some y := ey
  cases ey
  refine ⟨F, O, S, a, S', rp, h1, fun v H1 F1 O1 st1 r1 ra => ?_⟩
  refine hr H1 F1 v x m Q r1.bs.fh (r1.view ra ex) eg (r1.wish fun w H3 F3 O3 st3 r3 rm => ?_)
  exact k w H3 F3 O3 (st1.trans st3) r3 rm
theorem bin_rd2 {K : PySem.W.Frag} {g : D → D → Option M} {fb : FE} {r : R2} {va : V} (hr : ∀ (H F : Hp) (u : V) (y : D) (m : M) (Q : VK), Le F H → View K H F u y → g .non y = some m → Wish K H F m Q → r va u H Q)
    {σ : St} {H : Hp} {Q : VK} (h : rdM K (mBin g (eC .non) fb) σ H Q) : tOp r (tC va) (rdE K fb) σ H Q := by
  obtain ⟨F, O, S, m, S', rp, hf, k⟩ := h
  obtain ⟨a, S1, h1, h2⟩ := R.bind_ok hf
  obtain ⟨b, S2, h3, h4⟩ := R.bind_ok h2
  obtain ⟨e4, x, y, ex, ey, eg⟩ := onD_ok h4
  subst e4
  cases h1
  have ex : some D.non = some x := ex
  cases ex
  refine ⟨F, O, S, b, S', rp, h3, fun u H2 F2 O2 st2 r2 rb => ?_⟩
  refine hr H2 F2 u y m Q r2.bs.fh (r2.view rb ey) eg (r2.wish fun w H3 F3 O3 st3 r3 rm => ?_)
  exact k w H3 F3 O3 (st2.trans st3) r3 rm
def rTab (va : V) (g : Str → Option V) : R2 := fun v u H Q => u = va ∧ ∃ s w, v = .str s ∧ g s = some w ∧ Q w H
theorem or_in {a : Addr} (T : ∃ o es ep, X.K.lookup a = some o ∧ o.ExactDict ∧ o.data = .dict es ep ∧ tabIs X.w es.toList kvs ∧ (a == sysModules) = false ∧ (kvs.map (·.1)).Nodup) :
    OpR X (compareOp .In) (rTab (.ref a) fun s => some (.bl (tabAt kvs s).isSome)) := by
  intro pins s σ H x y v u Q I rx ry ⟨e1, z, w, e2, e3, q⟩
  subst e1 e2
  cases e3
  obtain ⟨o, es, ep, hl, he, hd, ht, hs, hn⟩ := T
  obtain rfl : u = .ref a := ry
  obtain ⟨t, rfl⟩ : ∃ t, v = .str z t := rx
  have hg := (I.bs a o (I.ok.mod.kin a o hl)).1
  have hm := (tab_dict (P := X.prog) (K := X.K) hg he hd ht hn).mapOf
  have hv := tab_val z ht
  refine wpAny_in_of (knd := strKind X.prog X.w) (k := z) (isStrOf_self z t) hs hm ⟨_, H, I.tok _, ?_, q⟩
  cases ec : tabAt kvs z with
  | none =>
    rw [ec] at hv
    have hv : valueAt (tabV es.toList kvs) z = none := hv
    rw [hv]
    rfl
  | some i =>
    rw [ec] at hv
    obtain ⟨t', hv⟩ : ∃ t, valueAt (tabV es.toList kvs) z = some (.int i t) := hv
    rw [hv]
    rfl
theorem or_nin {a : Addr} (T : ∃ o es ep, X.K.lookup a = some o ∧ o.ExactDict ∧ o.data = .dict es ep ∧ tabIs X.w es.toList kvs ∧ (a == sysModules) = false ∧ (kvs.map (·.1)).Nodup) :
    OpR X (compareOp .NotIn) (rTab (.ref a) fun s => some (.bl (!(tabAt kvs s).isSome))) := by
  intro pins s σ H x y v u Q I rx ry ⟨e1, z, w, e2, e3, q⟩
  subst e1 e2
  cases e3
  obtain ⟨o, es, ep, hl, he, hd, ht, hs, hn⟩ := T
  obtain rfl : u = .ref a := ry
  obtain ⟨t, rfl⟩ : ∃ t, v = .str z t := rx
  have hg := (I.bs a o (I.ok.mod.kin a o hl)).1
  have hm := (tab_dict (P := X.prog) (K := X.K) hg he hd ht hn).mapOf
  have hv := tab_val z ht
  refine wpAny_notIn_of (knd := strKind X.prog X.w) (k := z) (isStrOf_self z t) hs hm ⟨_, H, I.tok _, ?_, q⟩
  cases ec : tabAt kvs z with
  | none =>
    rw [ec] at hv
    have hv : valueAt (tabV es.toList kvs) z = none := hv
    rw [hv]
    rfl
  | some i =>
    rw [ec] at hv
    obtain ⟨t', hv⟩ : ∃ t, valueAt (tabV es.toList kvs) z = some (.int i t) := hv
    rw [hv]
    rfl
def rTab2 (va : V) (g : Str → Option V) : R2 := fun v u H Q => v = va ∧ ∃ s w, u = .str s ∧ g s = some w ∧ Q w H
theorem ixr_tab {a : Addr} (T : ∃ o es ep, X.K.lookup a = some o ∧ o.ExactDict ∧ o.data = .dict es ep ∧ tabIs X.w es.toList kvs ∧ (a == sysModules) = false ∧ (kvs.map (·.1)).Nodup) :
    IxR X (rTab2 (.ref a) fun s => (tabAt kvs s).map .int) := by
  intro value slice pins s σ H x y v u Q I rx ry ⟨e1, z, w, e2, e3, q⟩ hs'
  subst e1 e2
  obtain ⟨o, es, ep, hl, he, hd, ht, hs, hn⟩ := T
  obtain rfl : v = .ref a := rx
  obtain ⟨t, rfl⟩ : ∃ t, u = .str z t := ry
  have hg := (I.bs a o (I.ok.mod.kin a o hl)).1
  have dd := tab_dict (P := X.prog) (K := X.K) hg he hd ht hn
  have hm := dd.mapOf
  have hv := tab_val z ht
  have e3 : (tabAt kvs z).map V.int = some w := e3
  cases ec : tabAt kvs z with
  | none => rw [ec] at e3; cases e3
  | some i =>
    rw [ec] at hv e3
    cases e3
    obtain ⟨t', hv⟩ : ∃ t, valueAt (tabV es.toList kvs) z = some (.int i t) := hv
    refine tail_any (dd.typeIs (s := s)) PySem.slot_dict_getitem.lookup (wpAny_getItem_of (knd := strKind X.prog X.w) (k := z) (isStrOf_self z t) hm hv ⟨V.int i, H, I.tok _, ⟨t', rfl⟩, q⟩) hs'
theorem TabG.at (T : TabG X.w X.K X.mg x kvs) : ∃ a, X.mg x = some (.ref a) ∧ ∃ o es ep, X.K.lookup a = some o ∧ o.ExactDict ∧ o.data = .dict es ep ∧ tabIs X.w es.toList kvs ∧ (a == sysModules) = false ∧ (kvs.map (·.1)).Nodup := by
  obtain ⟨a, o, es, ep, h1, h2⟩ := T
  exact ⟨a, h1, o, es, ep, h2⟩
theorem inT_str {v : D} {y : D} {m : M} (h : inT kvs v y = some m) : ∃ s, v = .str s ∧ m = .d (.bl (tabAt kvs s).isSome) := by
  unfold inT at h
  cases v with
  | str s => cases h; exact ⟨s, rfl, rfl⟩
  | _ => cases h
theorem ninT_str {v : D} {y : D} {m : M} (h : ninT kvs v y = some m) : ∃ s, v = .str s ∧ m = .d (.bl (!(tabAt kvs s).isSome)) := by
  unfold ninT at h
  cases v with
  | str s => cases h; exact ⟨s, rfl, rfl⟩
  | _ => cases h
theorem in_rd {a : Addr} {fa : FE} {σ : St} {H : Hp} {Q : VK} (h : rdM X.K (mBin (inT kvs) fa (eC .non)) σ H Q) : tOp (rTab (.ref a) fun s => some (.bl (tabAt kvs s).isSome)) (rdE X.K fa) (tC (.ref a)) σ H Q :=
  bin_rd1 (fun H F v x m Q l vx e w => by
    obtain ⟨s, rfl, rfl⟩ := inT_str e
    exact ⟨rfl, s, _, vx.str, rfl, w.bl⟩) h
theorem nin_rd {a : Addr} {fa : FE} {σ : St} {H : Hp} {Q : VK} (h : rdM X.K (mBin (ninT kvs) fa (eC .non)) σ H Q) : tOp (rTab (.ref a) fun s => some (.bl (!(tabAt kvs s).isSome))) (rdE X.K fa) (tC (.ref a)) σ H Q :=
  bin_rd1 (fun H F v x m Q l vx e w => by
    obtain ⟨s, rfl, rfl⟩ := ninT_str e
    exact ⟨rfl, s, _, vx.str, rfl, w.bl⟩) h
theorem dm_inT {fa : FE} (hg : Gl X x) (T : TabG X.w X.K X.mg x kvs) (ha : DE X fa a) (hm : behindInMarks .In (.Name x pos') = false := by with_unfolding_all rfl) (hd : (x == ("__debug__" : Str)) = false := by decide) :
    DM X (mBin (inT kvs) fa (eC .non)) (.Compare a [.In] [.Name x pos'] pos) := by
  obtain ⟨a, hx, T⟩ := T.at
  exact PE.imp (pe_cmpR (or_in T) ha (pe_glob (v := .ref a) hg hx rfl hd) hm) fun σ H Q h => in_rd h
theorem dt_inT {fa : FE} (hg : Gl X x) (T : TabG X.w X.K X.mg x kvs) (ha : DE X fa a) (hm : behindInMarks .In (.Name x pos') = false := by with_unfolding_all rfl) (hd : (x == ("__debug__" : Str)) = false := by decide) :
    DT X (tM (mBin (inT kvs) fa (eC .non))) (.Compare a [.In] [.Name x pos'] pos) := by
  obtain ⟨a, hx, T⟩ := T.at
  refine PT.imp (pt_cmpR (or_in T) ha (pe_glob (v := .ref a) hg hx rfl hd) hm) fun σ H Q h => ?_
  obtain ⟨F, O, S, c, S', rp, hf, k⟩ := h
  obtain ⟨m, S1, h1, h2⟩ := R.bind_ok hf
  obtain ⟨em, eS⟩ := asB_ok h2
  subst em eS
  refine in_rd ⟨F, O, S, _, S', rp, h1, fun v H' F' O' st r' rm => ⟨c, ?_, k H' F' O' st r'⟩⟩
  cases (show RepD X.K F' v (.bl c) from rm)
  rfl
theorem dm_ninT {fa : FE} (hg : Gl X x) (T : TabG X.w X.K X.mg x kvs) (ha : DE X fa a) (hm : behindInMarks .NotIn (.Name x pos') = false := by with_unfolding_all rfl) (hd : (x == ("__debug__" : Str)) = false := by decide) :
    DM X (mBin (ninT kvs) fa (eC .non)) (.Compare a [.NotIn] [.Name x pos'] pos) := by
  obtain ⟨a, hx, T⟩ := T.at
  exact PE.imp (pe_cmpR (or_nin T) ha (pe_glob (v := .ref a) hg hx rfl hd) hm) fun σ H Q h => nin_rd h
theorem dt_ninT {fa : FE} (hg : Gl X x) (T : TabG X.w X.K X.mg x kvs) (ha : DE X fa a) (hm : behindInMarks .NotIn (.Name x pos') = false := by with_unfolding_all rfl) (hd : (x == ("__debug__" : Str)) = false := by decide) :
    DT X (tM (mBin (ninT kvs) fa (eC .non))) (.Compare a [.NotIn] [.Name x pos'] pos) := by
  obtain ⟨a, hx, T⟩ := T.at
  refine PT.imp (pt_cmpR (or_nin T) ha (pe_glob (v := .ref a) hg hx rfl hd) hm) fun σ H Q h => ?_
  obtain ⟨F, O, S, c, S', rp, hf, k⟩ := h
  obtain ⟨m, S1, h1, h2⟩ := R.bind_ok hf
  obtain ⟨em, eS⟩ := asB_ok h2
  subst em eS
  refine nin_rd ⟨F, O, S, _, S', rp, h1, fun v H' F' O' st r' rm => ⟨c, ?_, k H' F' O' st r'⟩⟩
  cases (show RepD X.K F' v (.bl c) from rm)
  rfl
theorem dm_ixT {fb : FE} (hg : Gl X x) (T : TabG X.w X.K X.mg x kvs) (hb : DE X fb b) (hs : PlainIx b := by exact fun _ _ => rfl) (hd : (x == ("__debug__" : Str)) = false := by decide) :
    DM X (mBin (ixT kvs) (eC .non) fb) (.Subscript (.Name x pos') b pos) := by
  obtain ⟨a, hx, T⟩ := T.at
  refine PE.imp (pe_ix (ixr_tab T) (pe_glob (v := .ref a) hg hx rfl hd) hb hs) fun σ H Q h => bin_rd2 (fun H F u y m Q l vy e w => ?_) h
  unfold ixT at e
  cases y with
  | str s =>
    have e : (tabAt kvs s).map (fun i => M.d (.int i)) = some m := e
    cases ec : tabAt kvs s with
    | none => rw [ec] at e; cases e
    | some i =>
      rw [ec] at e
      cases e
      exact ⟨rfl, s, .int i, vy.str, by dsimp only; rw [ec]; rfl, w.int⟩
  | _ => cases e
end

theorem loopK {prog : Program} {w : World} {A : Around} {R : Result → Shared → Prop} {K : Type} [DecidableEq K] {knd : PySem.KeyKind prog w K} {I : Addr} {fp wr : List Addr} {G : Array GenState → Array GenState → Prop} {n : Nat}
    {P : Nat → Value → Prop} {St : Nat → Shared → Prop} (W : WalksS prog w A.in1 I fp wr G n P St) (S : Addr) (hSf : S ∉ fp) (xs : List K) (hn : xs.length = n) (hval : ∀ i v, P i v → ∃ k, xs[i]? = some k ∧ knd.is k v = true ∧ v.scannable = true)
    (hb : n + 1 < scanBound) (T : Nat → K → Bool) (N : Nat → Nat) (hT : ∀ i k, xs[i]? = some k → (∀ k', (T i k' || decide (k' = k)) = T (i + 1) k') ∧ (if T i k = true then N i else N i + 1) = N (i + 1)) (hN : ∀ i, i ≤ n → N i ≤ i) :
    ∀ (k i : Nat) (s : Shared), n - i = k → i ≤ n → St i s → Heap.SetOf knd s.heap S (T i) (N i) →
      (∀ s', Moved (S :: wr) G s s' → Heap.SetOf knd s'.heap S (T n) (N n) → R (.ok (.ret .none)) s') →
      codeAny (model prog w) A (.builtin "set.update.loop" { pos := [.ref S, .ref I] }) R s := by
  have hSw : S ∉ wr := fun h => hSf (W.sub S h)
  have hsub : ∀ b, b ∈ wr → b ∈ S :: wr := fun b hb => List.mem_cons_of_mem S hb
  intro k
  induction k with
  | zero =>
    intro i s hk hi hst hS hR
    have hin : i = n := by omega
    subst hin
    refine codeAny_builtin F.entry_set_update_loop ?_
    rw [Around.under_plainId F.plain_set_update_loop { pos := [Value.ref S, Value.ref I] }]
    refine wpAny_bind (W.done s _ _ hst fun s' hm => wpAny_pure (hR s' (Moved.mono hm hsub) ?_))
    obtain ⟨o, es, ep, t, ho, rest⟩ := hS
    exact ⟨o, es, ep, t, hm.heap S o hSw ho, rest⟩
  | succ k ih =>
    intro i s hk hi hst hS hR
    have hlt : i < n := by omega
    refine codeAny_builtin F.entry_set_update_loop ?_
    rw [Around.under_plainId F.plain_set_update_loop { pos := [Value.ref S, Value.ref I] }]
    refine wpAny_bind (W.item i s _ _ hlt hst fun v s' hP hst' hm => ?_)
    obtain ⟨x, hx, hxv, hsc⟩ := hval i v hP
    obtain ⟨hT1, hT2⟩ := hT i x hx
    have hS' : Heap.SetOf knd s'.heap S (T i) (N i) := by
      obtain ⟨o, es, ep, t, ho, rest⟩ := hS
      exact ⟨o, es, ep, t, hm.heap S o hSw ho, rest⟩
    have hni := hN i (by omega)
    refine wpAny_bind (wpAny_holding (wpAny_holding (wpAny_bind (knd.pyHash hxv ?_))))
    refine wpAny_setAddHashed_of hxv hsc hS' (by omega) fun h' hsb hS2 => ?_
    have hSi := SetOf_congr hS2 hT1 hT2
    refine wpAny_pure ⟨plainId_quiet F.plain_set_update_loop { pos := [Value.ref S, Value.ref I] }, ?_⟩
    refine ih (i + 1) _ (by omega) hlt (W.frame (i + 1) s' h' _ hst' (Nat.le_succ s'.toks) fun b hb o e => ?_) hSi fun s'' hm'' hS'' => hR s'' (Moved.trans W.gtrans (Moved.then_heap (Moved.mono hm hsub) (Nat.le_succ s'.toks) fun b o hb e => ?_) hm'') hS''
    · rw [hsb.right b fun h => hSf (h ▸ hb)]
      exact e
    · rw [hsb.right b fun h => hb (h ▸ List.mem_cons_self)]
      exact e
def stK {K : Type} [DecidableEq K] (σ : List K) (k : K) : List K := if k ∈ σ then σ else σ ++ [k]
def ddl {K : Type} [DecidableEq K] (xs : List K) : List K := xs.foldl stK []
theorem ddl_snoc {K : Type} [DecidableEq K] (xs : List K) (k : K) : ddl (xs ++ [k]) = stK (ddl xs) k := by
  unfold ddl
  rw [List.foldl_append]
  rfl
theorem ddl_take {K : Type} [DecidableEq K] {xs : List K} {i : Nat} {k : K} (h : xs[i]? = some k) : ddl (xs.take (i + 1)) = stK (ddl (xs.take i)) k := by
  rw [List.take_add_one, h]
  exact ddl_snoc _ _
theorem ddl_len {K : Type} [DecidableEq K] (xs : List K) : (ddl xs).length ≤ xs.length := by
  have : ∀ (xs σ : List K), (xs.foldl stK σ).length ≤ σ.length + xs.length := by
    intro xs
    induction xs with
    | nil => intro σ; exact Nat.le_refl _
    | cons x xs ih =>
      intro σ
      have h := ih (stK σ x)
      have h2 : (stK σ x).length ≤ σ.length + 1 := by
        unfold stK
        split
        · omega
        · rw [List.length_append]; exact Nat.le_refl _
      rw [List.foldl_cons, List.length_cons]
      omega
  have h := this xs []
  have e : ([] : List K).length + xs.length = xs.length := Nat.zero_add _
  rw [e] at h
  exact h
theorem call_setK {prog : Program} {w : World} {A : Around} {E : Value → Shared → Prop} {K : Type} [DecidableEq K] {knd : PySem.KeyKind prog w K} {s : Shared} {l : Addr} {items : Array Value} {xs : List K} {Q : Value → Shared → Prop}
    (hh : A.handled = none) (hl : s.heap.IsList l items) (hn : xs.length = items.size) (hi : ∀ (i : Nat) (v : Value), items[i]? = some v → ∃ k, xs[i]? = some k ∧ knd.is k v = true ∧ v.scannable = true) (hb : items.size + 1 < scanBound)
    (hQ : ∀ (h' : Heap) (tk : Nat), Heap.SetOf knd h' s.heap.objs.size (fun k => decide (k ∈ ddl xs)) (ddl xs).length → (∀ (b : Nat) (o : Obj), b < s.heap.objs.size → s.heap.get? b = some o → h'.get? b = some o) →
      Q (.ref s.heap.objs.size) { heap := h', gens := s.gens, drawn := s.drawn, toks := tk, os := s.os }) : wpAny (model prog w) A (call (.type "set") [.ref l]) Q E s := by
  obtain ⟨c, tl, hmro⟩ := F.called_set.mro
  have hmade := F.called_set.made
  have hsub := F.called_set.sub
  refine wpAny_call (codeAny_of_tree ?_)
  refine wpAny_pure ⟨Code.quiet_builtin _ (by decide +kernel), codeAny_builtin F.entry_type_call ?_⟩
  rw [Around.under_plain (weight_type_call_type "set" [Value.ref l] []) rfl]
  have h1 := F.called_set.notType
  have h2 := F.called_set.canCreate
  have hct := F.typeCall_set_1 (Value.ref l)
  unfold Builtin.«type.__call__»
  dsimp only
  refine wpAny_ite_false (decide_eq_false (by rw [h1]; decide)) (wpAny_ite_false (decide_eq_false (by rw [h2]; decide)) ?_)
  refine wpAny_bind (wpAny_of_eq hct (wpAny_bind (wpAny_of_eq hmro (wpAny_ite_false rfl (wpAny_bind (wpAny_of_eq hmade (wpAny_bind (wpAny_pure (wpAny_bind (wpAny_holding (wpAny_call ?_)))))))))))
  refine codeAny_mono (code_set_new_1 (E := E) (Q₁ := fun v s1 => v = .ref s.heap.objs.size ∧ ∃ led, s1 = { heap := s.heap.push { cls := Value.type "set", data := Data.set #[] 0 (SetTable.fresh 0 0 led) }, gens := s.gens, drawn := s.drawn, toks := s.toks, os := s.os }) (.ref l) fun led => ⟨rfl, led, rfl⟩) fun r s1 hr => ?_
  match r, hr with
  | .error e, hr => exact hr
  | .ok (.ret v), hr =>
    obtain ⟨rfl, led, rfl⟩ := hr
    dsimp only
    have hS := Heap.get?_push_size s.heap (o := { cls := Value.type "set", data := Data.set #[] 0 (SetTable.fresh 0 0 led) }) rfl
    have hT : Shared.TypeIs { heap := s.heap.push { cls := Value.type "set", data := Data.set #[] 0 (SetTable.fresh 0 0 led) }, gens := s.gens, drawn := s.drawn, toks := s.toks, os := s.os } (.ref s.heap.objs.size) "set" := ⟨_, hS, rfl⟩
    have hli := F.called_set.init.lookup
    have hbi := F.called_set.init.bind (.ref s.heap.objs.size)
    refine wpAny_bind (wpAny_isInstance hT hsub (wpAny_ite_false rfl (wpAny_bind (wpAny_holding (wpAny_bind (wpAny_specialOf hT hli (wpAny_holding (wpAny_bind (wpAny_of_eq hbi (wpAny_bind (wpAny_call ?_)))))))))))
    refine codeAny_mono (R := wants (fun r s2 => r = .none ∧ Q (.ref s.heap.objs.size) s2) E) (codeAny_call_builtin F.called_set.init.plain F.entry_set_init (check_set_init_1 hT ?_)) fun r s2 hr => ?_
    · unfold Builtin.«set.__init__»
      refine wpAny_bind (wpAny_of_eq (a := ()) rfl ?_)
      dsimp only [List.cons_append, List.nil_append]
      refine wpAny_bind (wpAny_bind (wpAny_bind (wpAny_typeOf hT ?_)))
      dsimp only
      refine wpAny_ite_false rfl (wpAny_pure (wpAny_of_eq (a := "set") rfl (wpAny_bind (wpAny_of_eq (a := ()) rfl (wpAny_bind (wpAny_pure (wpAny_bind ?_)))))))
      refine wpAny_bind (wpAny_bind (wpAny_load' hS ?_))
      dsimp only
      refine wpAny_ite_false rfl (wpAny_pure (wpAny_pure (wpAny_ite_false rfl (wpAny_bind ?_))))
      unfold Builtin.Frozenset.updateFrom
      have hl1 := hl.push { cls := Value.type "set", data := Data.set #[] 0 (SetTable.fresh 0 0 led) }
      have hTl : Shared.TypeIs { heap := s.heap.push { cls := Value.type "set", data := Data.set #[] 0 (SetTable.fresh 0 0 led) }, gens := s.gens, drawn := s.drawn, toks := s.toks, os := s.os } (.ref l) "list" := by
        obtain ⟨o, ho, hc, _⟩ := hl1
        exact ⟨o, ho, hc⟩
      refine wpAny_bind ?_
      unfold Builtin.Frozenset.isAnySet orM
      refine wpAny_bind (wpAny_isInstance hTl F.sub_list_set ?_)
      refine wpAny_isInstance hTl F.sub_list_frozenset ?_
      refine wpAny_ite_false rfl (wpAny_bind (wpAny_typeOf hTl (wpAny_ite_false rfl (wpAny_bind (wpAny_pyIter_list hl1 (wpAny_bind (wpAny_runValue ?_)))))))
      have hll : l < s.heap.objs.size := by
        obtain ⟨o, ho, _⟩ := hl
        exact Heap.lt_size ho
      have sz1 : (s.heap.push { cls := Value.type "set", data := Data.set #[] 0 (SetTable.fresh 0 0 led) }).objs.size = s.heap.objs.size + 1 := Heap.size_push ..
      have hx : ∀ i, i ≤ items.size → (ddl (xs.take i)).length ≤ i := fun i hi => Nat.le_trans (ddl_len _) (by rw [List.length_take]; omega)
      have e1 : xs.take items.size = xs := by rw [← hn]; exact List.take_length
      refine loopK (knd := knd) (Walks.list (prog := prog) (w := w) (A := A.in1.in1.in1) hh _ l (by show l ≠ (s.heap.push _).objs.size; rw [sz1]; exact Nat.ne_of_lt (Nat.lt_succ_of_lt hll)) items).toS s.heap.objs.size ?_ xs hn hi hb (fun i k => decide (k ∈ ddl (xs.take i))) (fun i => (ddl (xs.take i)).length) ?_ hx items.size 0 _ rfl (Nat.zero_le _) ?_ ?_ ?_
      · show ¬ s.heap.objs.size ∈ [(s.heap.push _).objs.size, l]
        rw [sz1]
        intro h
        rcases List.mem_cons.mp h with h | h
        · exact Nat.ne_of_lt (Nat.lt_succ_self _) h
        · exact Nat.ne_of_gt hll (List.mem_singleton.mp h)
      · intro i k hk
        rw [ddl_take hk]
        unfold stK
        by_cases h : k ∈ ddl (xs.take i)
        · simp only [if_pos h, decide_eq_true h, if_true, and_true]
          intro k'
          by_cases e : k' = k
          · subst e; simp [h]
          · simp [e]
        · simp only [if_neg h, decide_eq_false h, Bool.false_eq_true, if_false, List.length_append, List.length_singleton, and_true]
          intro k'
          simp
      · refine ⟨?_, hl1.push _⟩
        exact ⟨_, Heap.get?_push_size _ rfl, rfl, rfl⟩
      · have hf := setObjOf_fresh (knd := knd) led
        have hg := Heap.get?_push_of_some { cls := Value.type "list_iterator", data := Data.fields #[Value.ref l, Value.int 0 0] } hS
        have := hf.setOf hg (by unfold scanBound; decide)
        exact this
      · intro s' hm hS'
        obtain ⟨h', g', d', t', o'⟩ := s'
        obtain ⟨m1, m2, m3, m4, m5⟩ := hm
        cases m2
        cases m3
        cases m4
        have hS' : Heap.SetOf knd h' s.heap.objs.size (fun k => decide (k ∈ ddl (xs.take items.size))) (ddl (xs.take items.size)).length := hS'
        rw [e1] at hS'
        refine wpAny_pure (wpAny_pure ⟨rfl, hQ h' t' hS' fun b o hb hg => m1 b o ?_ ?_⟩)
        · show ¬ b ∈ [s.heap.objs.size, (s.heap.push _).objs.size]
          rw [sz1]
          intro h
          rcases List.mem_cons.mp h with h | h
          · exact Nat.ne_of_lt hb h
          · exact Nat.ne_of_lt (Nat.lt_succ_of_lt hb) (List.mem_singleton.mp h)
        · exact Heap.get?_push_of_some _ (Heap.get?_push_of_some _ hg)
    · match r, hr with
      | .error e, hr => exact hr
      | .ok (.ret v), hr =>
        obtain ⟨rfl, hq⟩ := hr
        exact wpAny_pure (wpAny_ite_false rfl (wpAny_pure hq))
/-- len(set(a list of texts)) -/
def tLenK (K : PySem.W.Frag) (ta : TE) : TE := fun σ H Q => ta σ H fun x H1 => ∃ l xs, x = V.ref l ∧ SqL K H1 l (xs.map V.str) ∧ xs.length ≤ 4000 ∧ Q (.int (ddl xs).length) H1
theorem strs_at {xs : List Str} {us : List Value} (h : Vals (xs.map V.str) us) : ∀ (i : Nat) (v : Value), us[i]? = some v → ∃ k, xs[i]? = some k ∧ Value.isStrOf k v = true ∧ v.scannable = true := by
  induction xs generalizing us with
  | nil =>
    cases h
    intro i v e
    cases i <;> cases e
  | cons x xs ih =>
    cases h with
    | cons r rs =>
      obtain ⟨t, rfl⟩ := r
      intro i v e
      cases i with
      | zero => cases e; exact ⟨x, rfl, isStrOf_self x t, rfl⟩
      | succ i => exact ih rs i v e
section
variable {X : Cx} {a : Expr} {p p2 q pos : Pos}
theorem pe_lenK {ta : TE} (hc : X.calm = true) (hg : Gl X "len") (hm : X.mg "len" = none) (hg2 : Gl X "set") (hm2 : X.mg "set" = none) (ha : PE X a ta) (na : starEach [a] X.env = (false, eval a X.env) :: starEach [] X.env := by rfl) :
    PE X (.Call (.Name "len" p) [.Call (.Name "set" p2) [a] [] q] [] pos) (tLenK X.K ta) where
  run := fun pins s σ H Q I h =>
    Call_ (ld_blt I hg hm boot_len (PyProof.Rows.callWith_builtin1 (args_cons (Call_ (ld_blt I hg2 hm2 boot_set (PyProof.Rows.callWith_type1 (args_cons (thn (ha.run pins s σ H _ I h)
      fun v s1 ⟨x, H1, I1, r1, l, xs, e, hq, h1, q1⟩ => args_nil (by
        subst e
        obtain rfl : v = .ref l := r1
        obtain ⟨its, r, pl, hz⟩ := Inv.list I1 hq
        have hl : its.length = xs.length := by rw [← Vals.length r, List.length_map]
        have hls : its.toArray.size = xs.length := by rw [List.size_toArray]; exact hl
        refine call_setK (knd := strKind X.prog X.w) (xs := xs) (I1.ok.hd hc) (PlainL.isList pl) hls.symm (fun i v e => strs_at r i v (by simpa using e)) (by rw [hls]; unfold scanBound; omega) fun h' tk hS hk => args_nil ?_
        obtain ⟨o, es, ep, t, ho, hex, hd, _, _, _, hf, hn⟩ := hS
        have I2 := Inv.kept I1 (h' := h') (t' := tk) fun b o e => hk b o (Heap.lt_size e) e
        have hlen := ddl_len xs
        refine call_len_set ho hex hd hf (by rw [hn]; omega) ⟨.int (ddl xs).length, H1, Inv.tok I2 _, ⟨_, by rw [hn]⟩, q1⟩))
      na) na rfl) (by decide) (by decide)) rfl) rfl) rfl rfl) (by decide) (by decide)) rfl
def lenSet (d : D) : Option Int := match d with
  | .lst ds => (match asStrs ds with
    | some xs => if xs.length ≤ 4000 then some ((ddl xs).length : Int) else none
    | none => none)
  | _ => none
def mLenSet (fe : FE) : FM := fun S => (fe S).bind fun o S1 => match o.get S1 with
  | some d => (match lenSet d with
    | some i => .ok (.d (.int i)) S1
    | none => .no)
  | none => .no
theorem dm_lenSet {fe : FE} (hc : X.calm = true) (hg : Gl X "len") (hm : X.mg "len" = none) (hg2 : Gl X "set") (hm2 : X.mg "set" = none) (ha : DE X fe a) (na : starEach [a] X.env = (false, eval a X.env) :: starEach [] X.env := by rfl) :
    DM X (mLenSet fe) (.Call (.Name "len" p) [.Call (.Name "set" p2) [a] [] q] [] pos) :=
  PE.imp (pe_lenK hc hg hm hg2 hm2 ha na) fun σ H Q h => by
    obtain ⟨F, O, S, m, S', rp, hf, k⟩ := h
    obtain ⟨o, S1, h1, h2⟩ := R.bind_ok hf
    refine ⟨F, O, S, o, S1, rp, h1, fun v H1 F1 O1 st1 r1 ra => ?_⟩
    cases eo : o.get S1 with
    | none => rw [eo] at h2; cases h2
    | some d =>
      rw [eo] at h2
      dsimp only at h2
      unfold lenSet at h2
      cases d with
      | lst ds =>
        dsimp only at h2
        cases es : asStrs ds with
        | none => rw [es] at h2; cases h2
        | some xs =>
          rw [es] at h2
          dsimp only at h2
          by_cases hl : xs.length ≤ 4000
          · rw [if_pos hl] at h2
            cases h2
            obtain ⟨l, vs, rfl, hr, rr⟩ := (r1.view ra eo).list r1.bs.fh
            obtain rfl := asStrs_ok es rr
            exact ⟨l, xs, rfl, .inl hr, hl, k _ H1 F1 O1 st1 r1 (.int _)⟩
          · rw [if_neg hl] at h2; cases h2
      | _ => cases h2
end
@[simp] theorem mLenSet_ap (fe : FE) (S : SS) : mLenSet fe S = (fe S).bind fun o S1 => match o.get S1 with
  | some d => (match lenSet d with
    | some i => .ok (.d (.int i)) S1
    | none => .no)
  | none => .no := (rfl)
theorem lenSet_strs (xs : List Str) (h : xs.length ≤ 4000) : lenSet (.lst (xs.map .str)) = some ((ddl xs).length : Int) := by
  unfold lenSet
  dsimp only
  rw [asStrs_map]
  dsimp only
  rw [if_pos h]
theorem ddl_nodup {K : Type} [DecidableEq K] {xs : List K} (h : xs.Nodup) : ddl xs = xs := by
  have : ∀ (xs σ : List K), (σ ++ xs).Nodup → xs.foldl stK σ = σ ++ xs := by
    intro xs
    induction xs with
    | nil => intro σ _; simp
    | cons x xs ih =>
      intro σ hn
      have hx : x ∉ σ := by
        intro hx
        rw [List.nodup_append] at hn
        exact hn.2.2 x hx x (List.mem_cons_self ..) rfl
      rw [List.foldl_cons]
      have e : stK σ x = σ ++ [x] := by unfold stK; rw [if_neg hx]
      rw [e, ih _ (by simpa using hn)]
      simp
  have h2 := this xs [] (by simpa using h)
  simpa [ddl] using h2
set_option maxHeartbeats 2000000
def c_KEPT : D := (.tup [(.str "yes"), (.str "no"), (.str "if"), (.str "let"), (.str "loop"), (.str "raise"), (.str "try"), (.str "pick"), (.str "many"), (.str "parts"), (.str "mark"), (.str "melt"), (.str "def")])
def c_LETTERS : D := (.str "abcdefghijklmnopqrstuvwxyz")
def c_FIGURES : D := (.str "0123456789")
def c_MOST_LETTERS : D := (.int 8)
def c_MOST_FIGURES : D := (.int 3)
def c_PLAIN : D := (.tup [(.str "number"), (.str "truth"), (.str "name")])
def c_SIGNS : D := (.tup [(.str "+"), (.str "-"), (.str "*"), (.str "/"), (.str "<"), (.str "=")])
def t_SHAPES : List (Str × Int) := [("number", 2), ("truth", 2), ("name", 2), ("do", 4), ("parts", 2), ("pick", 3), ("many", 2), ("if", 4), ("let", 4), ("loop", 6), ("raise", 2), ("try", 4), ("mark", 3), ("call", 3), ("melt", 4)]
def c_MOST_NUMBER : D := (.int 1000000000)
def c_MOST_ARGS : D := (.int 4)
def c_MOST_NODES : D := (.int 2000)
def c_MOST_DEPTH : D := (.int 64)
def b_is_whole (call : Str → List M → CR) : FS :=
  (sRet (vAnd (mBlt (on2 isiD) (aCons (eN 0) (aCons (eC (.ty "int")) aNil))) (vNot (mBlt (on2 isiD) (aCons (eN 0) (aCons (eC (.ty "bool")) aNil))))))
def g_is_whole (call : Str → List M → CR) : List M → CR := runFn 1 1 (kpl [true]) (b_is_whole call)
def b_is_from_to (call : Str → List M → CR) : FS :=
  (sRet (vAnd (mCall (call "is_whole") (aCons (eN 0) aNil)) (mChain leD leD (eN 1) (eN 0) (eN 2))))
def g_is_from_to (call : Str → List M → CR) : List M → CR := runFn 3 3 (kpl [true, true, true]) (b_is_from_to call)
def b_stem_of (call : Str → List M → CR) : FS :=
  (sRet (mStr rstripD (eN 0) (eC c_FIGURES)))
def g_stem_of (call : Str → List M → CR) : List M → CR := runFn 1 1 (kpl [true]) (b_stem_of call)
def b_is_word (call : Str → List M → CR) : FS :=
  (sSeq (sIf (tOr' (tNot' (tM (mBlt (on2 isiD) (aCons (eN 0) (aCons (eC (.ty "str")) aNil))))) (tM (mBin inD (eN 0) (eC c_KEPT))))
    (sRet (mE (eC (.bl false))))
    sNil)
  (sSeq (sSet 1 (mCall (call "stem_of") (aCons (eN 0) aNil)))
  (sSeq (sIf (tOr' (tNot' (tM (mChain leD leD (eC (.int 1)) (eM (mBlt (on1 lenD) (aCons (eN 1) aNil))) (eC c_MOST_LETTERS)))) (tNot' (tM (mBlt (on1 allD) (aCons (eM (mLc [3] (iSeq (eN 1)) (gN 3) tTrue (eM (mBin inD (eN 3) (eC c_LETTERS))))) aNil)))))
    (sRet (mE (eC (.bl false))))
    sNil)
  (sSeq (sSet 2 (mSl (eN 0) (pIx (eM (mBlt (on1 lenD) (aCons (eN 1) aNil)))) pNo))
  (sRet (vOr (mBin eqD (eN 2) (eC (.str ""))) (vAnd (mBin leD (eM (mBlt (on1 lenD) (aCons (eN 2) aNil))) (eC c_MOST_FIGURES)) (mBin neD (eM (mBin ixD (eN 2) (eC (.int 0)))) (eC (.str "0"))))))))))
def g_is_word (call : Str → List M → CR) : List M → CR := runFn 1 4 (kpl [true]) (b_is_word call)
def b_is_row (call : Str → List M → CR) : FS :=
  (sRet (vAnd (mBlt (on2 isiD) (aCons (eN 0) (aCons (eC (.ty "tuple")) aNil))) (mBin leD (eM (mBlt (on1 lenD) (aCons (eN 0) aNil))) (eC c_MOST_ARGS))))
def g_is_row (call : Str → List M → CR) : List M → CR := runFn 1 1 (kpl [true]) (b_is_row call)
def b_is_bare (call : Str → List M → CR) : FS :=
  (sRet (vAnd (mBlt (on2 isiD) (aCons (eN 0) (aCons (eC (.ty "tuple")) aNil))) (vAnd (mBin neD (eN 0) (eM (mTup aNil))) (vAnd (mBlt (on2 isiD) (aCons (eM (mBin ixD (eN 0) (eC (.int 0)))) (aCons (eC (.ty "str")) aNil))) (mBin inD (eM (mBin ixD (eN 0) (eC (.int 0)))) (eC c_PLAIN))))))
def g_is_bare (call : Str → List M → CR) : List M → CR := runFn 1 1 (kpl [true]) (b_is_bare call)
def b_are_pairs (call : Str → List M → CR) : FS :=
  (sSeq (sIf (tNot' (tM (mCall (call "is_row") (aCons (eN 0) aNil))))
    (sRet (mE (eC (.bl false))))
    sNil)
  (sSeq (sFor (iSeq (eN 0)) (gN 1)
    (sIf (tOr' (tNot' (tM (mBlt (on2 isiD) (aCons (eN 1) (aCons (eC (.ty "tuple")) aNil))))) (tOr' (tM (mBin neD (eM (mBlt (on1 lenD) (aCons (eN 1) aNil))) (eC (.int 2)))) (tNot' (tM (mCall (call "is_word") (aCons (eM (mBin ixD (eN 1) (eC (.int 0)))) aNil))))))
    (sRet (mE (eC (.bl false))))
    sNil))
  (sSeq (sSet 2 (mLc [3, 4] (iSeq (eN 0)) (gT 2 (gsCons (gN 3) (gsCons (gN 4) gsNil))) (tNot' (tM (mCall (call "is_bare") (aCons (eN 4) aNil)))) (eN 3)))
  (sRet (mBin eqD (eM (mLenSet (eN 2))) (eM (mBlt (on1 lenD) (aCons (eN 2) aNil))))))))
def g_are_pairs (call : Str → List M → CR) : List M → CR := runFn 1 5 (kpl [true]) (b_are_pairs call)
def b_has_words (call : Str → List M → CR) : FS :=
  (sSeq (sIf (tM (mBin eqD (eM (mBin ixD (eN 0) (eC (.int 0)))) (eC (.str "loop"))))
    (sRet (vAnd (mCall (call "is_word") (aCons (eM (mBin ixD (eN 0) (eC (.int 1)))) aNil)) (vAnd (mCall (call "is_word") (aCons (eM (mBin ixD (eN 0) (eC (.int 3)))) aNil)) (mBin neD (eM (mBin ixD (eN 0) (eC (.int 1)))) (eM (mBin ixD (eN 0) (eC (.int 3))))))))
    sNil)
  (sSeq (sIf (tM (mBin eqD (eM (mBin ixD (eN 0) (eC (.int 0)))) (eC (.str "try"))))
    (sRet (mCall (call "is_word") (aCons (eM (mBin ixD (eN 0) (eC (.int 2)))) aNil)))
    sNil)
  (sRet (mCall (call "is_word") (aCons (eM (mBin ixD (eN 0) (eC (.int 1)))) aNil)))))
def g_has_words (call : Str → List M → CR) : List M → CR := runFn 1 1 (kpl [true]) (b_has_words call)
def b_is_node (call : Str → List M → CR) : FS :=
  (sSeq (sIf (tOr' (tNot' (tM (mBlt (on2 isiD) (aCons (eN 0) (aCons (eC (.ty "tuple")) aNil))))) (tOr' (tM (mBin eqD (eN 0) (eM (mTup aNil)))) (tNot' (tM (mBlt (on2 isiD) (aCons (eM (mBin ixD (eN 0) (eC (.int 0)))) (aCons (eC (.ty "str")) aNil)))))))
    (sRet (mE (eC (.bl false))))
    sNil)
  (sSeq (sIf (tOr' (tM (mBin (ninT t_SHAPES) (eM (mBin ixD (eN 0) (eC (.int 0)))) (eC .non))) (tM (mBin neD (eM (mBlt (on1 lenD) (aCons (eN 0) aNil))) (eM (mBin (ixT t_SHAPES) (eC .non) (eM (mBin ixD (eN 0) (eC (.int 0)))))))))
    (sRet (mE (eC (.bl false))))
    sNil)
  (sSeq (sIf (tM (mBin inD (eM (mBin ixD (eN 0) (eC (.int 0)))) (eM (mTup (aCons (eC (.str "number")) (aCons (eC (.str "mark")) aNil))))))
    (sRet (mCall (call "is_from_to") (aCons (eM (mBin ixD (eN 0) (eC (.int 1)))) (aCons (eC (.int 0)) (aCons (eC c_MOST_NUMBER) aNil)))))
    sNil)
  (sSeq (sIf (tM (mBin eqD (eM (mBin ixD (eN 0) (eC (.int 0)))) (eC (.str "truth"))))
    (sRet (mBlt (on2 isiD) (aCons (eM (mBin ixD (eN 0) (eC (.int 1)))) (aCons (eC (.ty "bool")) aNil))))
    sNil)
  (sSeq (sIf (tM (mBin eqD (eM (mBin ixD (eN 0) (eC (.int 0)))) (eC (.str "do"))))
    (sRet (vAnd (mBlt (on2 isiD) (aCons (eM (mBin ixD (eN 0) (eC (.int 1)))) (aCons (eC (.ty "str")) aNil))) (mBin inD (eM (mBin ixD (eN 0) (eC (.int 1)))) (eC c_SIGNS))))
    sNil)
  (sSeq (sIf (tM (mBin eqD (eM (mBin ixD (eN 0) (eC (.int 0)))) (eC (.str "pick"))))
    (sRet (mCall (call "is_from_to") (aCons (eM (mBin ixD (eN 0) (eC (.int 1)))) (aCons (eC (.int 1)) (aCons (eC c_MOST_ARGS) aNil)))))
    sNil)
  (sSeq (sIf (tM (mBin eqD (eM (mBin ixD (eN 0) (eC (.int 0)))) (eC (.str "parts"))))
    (sRet (mCall (call "is_row") (aCons (eM (mBin ixD (eN 0) (eC (.int 1)))) aNil)))
    sNil)
  (sSeq (sIf (tM (mBin inD (eM (mBin ixD (eN 0) (eC (.int 0)))) (eM (mTup (aCons (eC (.str "many")) (aCons (eC (.str "if")) aNil))))))
    (sRet (mE (eC (.bl true))))
    sNil)
  (sSeq (sIf (tM (mBin eqD (eM (mBin ixD (eN 0) (eC (.int 0)))) (eC (.str "call"))))
    (sRet (vAnd (mCall (call "has_words") (aCons (eN 0) aNil)) (mCall (call "is_row") (aCons (eM (mBin ixD (eN 0) (eC (.int 2)))) aNil))))
    sNil)
  (sSeq (sIf (tM (mBin eqD (eM (mBin ixD (eN 0) (eC (.int 0)))) (eC (.str "melt"))))
    (sRet (vAnd (mCall (call "has_words") (aCons (eN 0) aNil)) (mCall (call "are_pairs") (aCons (eM (mBin ixD (eN 0) (eC (.int 2)))) aNil))))
    sNil)
  (sRet (mCall (call "has_words") (aCons (eN 0) aNil)))))))))))))
def g_is_node (call : Str → List M → CR) : List M → CR := runFn 1 1 (kpl [true]) (b_is_node call)
def b_parts_of (call : Str → List M → CR) : FS :=
  (sSeq (sIf (tM (mBin inD (eM (mBin ixD (eN 0) (eC (.int 0)))) (eM (mTup (aCons (eC (.str "number")) (aCons (eC (.str "truth")) (aCons (eC (.str "name")) (aCons (eC (.str "raise")) aNil))))))))
    (sRet (mLst aNil))
    sNil)
  (sSeq (sIf (tM (mBin inD (eM (mBin ixD (eN 0) (eC (.int 0)))) (eM (mTup (aCons (eC (.str "do")) (aCons (eC (.str "let")) (aCons (eC (.str "pick")) (aCons (eC (.str "mark")) aNil))))))))
    (sRet (mBlt (on1 listD) (aCons (eM (mSl (eN 0) (pIx (eC (.int 2))) pNo)) aNil)))
    sNil)
  (sSeq (sIf (tM (mBin inD (eM (mBin ixD (eN 0) (eC (.int 0)))) (eM (mTup (aCons (eC (.str "many")) (aCons (eC (.str "if")) aNil))))))
    (sRet (mBlt (on1 listD) (aCons (eM (mSl (eN 0) (pIx (eC (.int 1))) pNo)) aNil)))
    sNil)
  (sSeq (sIf (tM (mBin eqD (eM (mBin ixD (eN 0) (eC (.int 0)))) (eC (.str "parts"))))
    (sRet (mBlt (on1 listD) (aCons (eM (mBin ixD (eN 0) (eC (.int 1)))) aNil)))
    sNil)
  (sSeq (sIf (tM (mBin eqD (eM (mBin ixD (eN 0) (eC (.int 0)))) (eC (.str "loop"))))
    (sRet (mLst (aCons (eM (mBin ixD (eN 0) (eC (.int 2)))) (aCons (eM (mBin ixD (eN 0) (eC (.int 4)))) (aCons (eM (mBin ixD (eN 0) (eC (.int 5)))) aNil)))))
    sNil)
  (sSeq (sIf (tM (mBin eqD (eM (mBin ixD (eN 0) (eC (.int 0)))) (eC (.str "try"))))
    (sRet (mLst (aCons (eM (mBin ixD (eN 0) (eC (.int 1)))) (aCons (eM (mBin ixD (eN 0) (eC (.int 3)))) aNil))))
    sNil)
  (sSeq (sIf (tM (mBin eqD (eM (mBin ixD (eN 0) (eC (.int 0)))) (eC (.str "call"))))
    (sRet (mBlt (on1 listD) (aCons (eM (mBin ixD (eN 0) (eC (.int 2)))) aNil)))
    sNil)
  (sRet (mBin addD (eM (mLc [1, 2] (iSeq (eM (mBin ixD (eN 0) (eC (.int 2))))) (gT 2 (gsCons (gN 1) (gsCons (gN 2) gsNil))) tTrue (eN 2))) (eM (mLst (aCons (eM (mBin ixD (eN 0) (eC (.int 3)))) aNil))))))))))))
def g_parts_of (call : Str → List M → CR) : List M → CR := runFn 1 3 (kpl [true]) (b_parts_of call)
def b_counted_parts (call : Str → List M → CR) : FS :=
  (sSeq (sIf (tM (mBin neD (eM (mBin ixD (eN 0) (eC (.int 0)))) (eC (.str "melt"))))
    (sRet (mCall (call "parts_of") (aCons (eN 0) aNil)))
    sNil)
  (sRet (mBin addD (eM (mLc [1, 2] (iSeq (eM (mBin ixD (eN 0) (eC (.int 2))))) (gT 2 (gsCons (gN 1) (gsCons (gN 2) gsNil))) (tNot' (tM (mCall (call "is_bare") (aCons (eN 2) aNil)))) (eN 2))) (eM (mLst (aCons (eM (mBin ixD (eN 0) (eC (.int 3)))) aNil))))))
def g_counted_parts (call : Str → List M → CR) : List M → CR := runFn 1 3 (kpl [true]) (b_counted_parts call)
noncomputable def b_is_tree (call : Str → List M → CR) : FS :=
  (sSeq (sSet 1 (mLst (aCons (eM (mTup (aCons (eN 0) (aCons (eC (.int 1)) aNil)))) aNil)))
  (sSeq (sSet 2 (mE (eC (.int 0))))
  (sSeq (sWhile (tM (mBin neD (eN 1) (eM (mLst aNil))))
    (sSeq (sAsg (eM (mPop 1)) (gT 2 (gsCons (gN 4) (gsCons (gN 5) gsNil))))
  (sSeq (sIf (tOr' (tM (mBin gtD (eN 5) (eC c_MOST_DEPTH))) (tNot' (tM (mCall (call "is_node") (aCons (eN 4) aNil)))))
    (sRet (mE (eC (.bl false))))
    sNil)
  (sSeq (sAug 2 iaddD (eC (.int 1)))
  (sSeq (sFor (iSeq (eM (mCall (call "parts_of") (aCons (eN 4) aNil)))) (gN 3)
    (sExpr (mApp 1 (eM (mTup (aCons (eN 3) (aCons (eM (mBin addD (eN 5) (eC (.int 1)))) aNil)))))))
  (sSeq (sIf (tM (mBin eqD (eM (mBin ixD (eN 4) (eC (.int 0)))) (eC (.str "melt"))))
    (sSet 2 (mBin addD (eM (mBin subD (eN 2) (eM (mBlt (on1 lenD) (aCons (eM (mCall (call "parts_of") (aCons (eN 4) aNil))) aNil))))) (eM (mBlt (on1 lenD) (aCons (eM (mCall (call "counted_parts") (aCons (eN 4) aNil))) aNil)))))
    sNil)
  (sIf (tM (mBin gtD (eN 2) (eC c_MOST_NODES)))
    (sRet (mE (eC (.bl false))))
    sNil)))))))
  (sRet (mE (eC (.bl true)))))))
noncomputable def g_is_tree (call : Str → List M → CR) : List M → CR := runFn 1 6 (kpl [true]) (b_is_tree call)
def b_with_parts (call : Str → List M → CR) : FS :=
  (sSeq (sIf (tM (mBin inD (eM (mBin ixD (eN 0) (eC (.int 0)))) (eM (mTup (aCons (eC (.str "number")) (aCons (eC (.str "truth")) (aCons (eC (.str "name")) (aCons (eC (.str "raise")) aNil))))))))
    (sRetV 0)
    sNil)
  (sSeq (sIf (tM (mBin inD (eM (mBin ixD (eN 0) (eC (.int 0)))) (eM (mTup (aCons (eC (.str "do")) (aCons (eC (.str "let")) (aCons (eC (.str "pick")) (aCons (eC (.str "mark")) aNil))))))))
    (sRet (mBin addD (eM (mSl (eN 0) pNo (pIx (eC (.int 2))))) (eM (mBlt (on1 tupleD) (aCons (eN 1) aNil)))))
    sNil)
  (sSeq (sIf (tM (mBin inD (eM (mBin ixD (eN 0) (eC (.int 0)))) (eM (mTup (aCons (eC (.str "many")) (aCons (eC (.str "if")) aNil))))))
    (sRet (mBin addD (eM (mSl (eN 0) pNo (pIx (eC (.int 1))))) (eM (mBlt (on1 tupleD) (aCons (eN 1) aNil)))))
    sNil)
  (sSeq (sIf (tM (mBin eqD (eM (mBin ixD (eN 0) (eC (.int 0)))) (eC (.str "parts"))))
    (sRet (mTup (aCons (eC (.str "parts")) (aCons (eM (mBlt (on1 tupleD) (aCons (eN 1) aNil))) aNil))))
    sNil)
  (sSeq (sIf (tM (mBin eqD (eM (mBin ixD (eN 0) (eC (.int 0)))) (eC (.str "loop"))))
    (sRet (mTup (aCons (eC (.str "loop")) (aCons (eM (mBin ixD (eN 0) (eC (.int 1)))) (aCons (eM (mBin ixD (eN 1) (eC (.int 0)))) (aCons (eM (mBin ixD (eN 0) (eC (.int 3)))) (aCons (eM (mBin ixD (eN 1) (eC (.int 1)))) (aCons (eM (mBin ixD (eN 1) (eC (.int 2)))) aNil))))))))
    sNil)
  (sSeq (sIf (tM (mBin eqD (eM (mBin ixD (eN 0) (eC (.int 0)))) (eC (.str "try"))))
    (sRet (mTup (aCons (eC (.str "try")) (aCons (eM (mBin ixD (eN 1) (eC (.int 0)))) (aCons (eM (mBin ixD (eN 0) (eC (.int 2)))) (aCons (eM (mBin ixD (eN 1) (eC (.int 1)))) aNil))))))
    sNil)
  (sSeq (sIf (tM (mBin eqD (eM (mBin ixD (eN 0) (eC (.int 0)))) (eC (.str "call"))))
    (sRet (mTup (aCons (eC (.str "call")) (aCons (eM (mBin ixD (eN 0) (eC (.int 1)))) (aCons (eM (mBlt (on1 tupleD) (aCons (eN 1) aNil))) aNil)))))
    sNil)
  (sSeq (sStarL 3 2 (eN 1))
  (sRet (mTup (aCons (eC (.str "melt")) (aCons (eM (mBin ixD (eN 0) (eC (.int 1)))) (aCons (eM (mBlt (on1 tupleD) (aCons (eM (mLc [4, 5] (iZp (aCons (eM (mBin ixD (eN 0) (eC (.int 2)))) (aCons (eN 3) aNil))) (gT 2 (gsCons (gN 4) (gsCons (gN 5) gsNil))) tTrue (eM (mTup (aCons (eM (mBin ixD (eN 4) (eC (.int 0)))) (aCons (eN 5) aNil)))))) aNil))) (aCons (eN 2) aNil))))))))))))))
def g_with_parts (call : Str → List M → CR) : List M → CR := runFn 2 6 (kpl [true, true]) (b_with_parts call)
def b_thawed (call : Str → List M → CR) : FS :=
  (sSeq (sIf (tM (mBin eqD (eM (mBin ixD (eN 0) (eC (.int 0)))) (eC (.str "melt"))))
    (sRet (mTup (aCons (eC (.str "call")) (aCons (eM (mBin ixD (eN 0) (eC (.int 1)))) (aCons (eM (mBlt (on1 tupleD) (aCons (eM (mLc [2, 1] (iSeq (eM (mBin ixD (eN 0) (eC (.int 2))))) (gT 2 (gsCons (gN 2) (gsCons (gN 1) gsNil))) tTrue (eM (mCall (call "thawed") (aCons (eN 1) aNil))))) aNil))) aNil)))))
    sNil)
  (sRet (mCall (call "with_parts") (aCons (eN 0) (aCons (eM (mLc [1] (iSeq (eM (mCall (call "parts_of") (aCons (eN 0) aNil)))) (gN 1) tTrue (eM (mCall (call "thawed") (aCons (eN 1) aNil))))) aNil)))))
def g_thawed (call : Str → List M → CR) : List M → CR := runFn 1 3 (kpl [true]) (b_thawed call)
def b__law_words (call : Str → List M → CR) : FS :=
  (sSeq (sSet 2 (mE (eC (.str "abcdefghijklmnopqrstuvwxyz"))))
  (sSeq (sSet 3 (mLst (aCons (eC (.str "kind")) (aCons (eC (.str "far")) (aCons (eC (.str "nought")) (aCons (eC (.str "lack")) (aCons (eC (.str "told")) (aCons (eC (.str "dry")) (aCons (eC (.str "refused")) (aCons (eC (.str "name")) (aCons (eC (.str "call")) (aCons (eC (.str "number")) (aCons (eC (.str "do")) (aCons (eC (.str "truth")) (aCons (eC (.str "root")) aNil)))))))))))))))
  (sSeq (sSet 4 (mCall (call "_law_take") (aCons (eN 0) (aCons (eC (.int 4)) aNil))))
  (sSeq (sSet 5 (mCall (call "_law_take") (aCons (eN 0) (aCons (eC (.int 26)) aNil))))
  (sSeq (sSet 6 (mBin mulD (eM (mBin ixD (eN 2) (eM (mCall (call "_law_take") (aCons (eN 0) (aCons (eC (.int 26)) aNil)))))) (eM (mBin addD (eC (.int 1)) (eM (mCall (call "_law_take") (aCons (eN 0) (aCons (eC (.int 8)) aNil))))))))
  (sSeq (sIf (tM (mBin eqD (eN 4) (eC (.int 0))))
    (sSeq (sSet 7 (mLst (aCons (eC (.str "")) (aCons (eC (.str "1")) (aCons (eC (.str "2")) (aCons (eC (.str "12")) (aCons (eC (.str "10")) (aCons (eC (.str "3")) (aCons (eC (.str "20")) (aCons (eC (.str "100")) (aCons (eC (.str "11")) (aCons (eC (.str "9")) (aCons (eC (.str "999")) (aCons (eC (.str "21")) aNil))))))))))))))
  (sSeq (sSet 7 (mBin addD (eM (mSl (eN 7) (pIx (eM (mBin modD (eN 5) (eC (.int 5))))) pNo)) (eM (mSl (eN 7) pNo (pIx (eM (mBin modD (eN 5) (eC (.int 5)))))))))
  (sRet (mLc [10] (iSeq (eM (mSl (eN 7) pNo (pIx (eN 1))))) (gN 10) tTrue (eM (mBin addD (eN 6) (eN 10)))))))
    sNil)
  (sSeq (sIf (tM (mBin eqD (eN 4) (eC (.int 1))))
    (sRet (mSl (eM (mBin addD (eM (mSl (eN 3) (pIx (eM (mBin modD (eN 5) (eC (.int 13))))) pNo)) (eM (mSl (eN 3) pNo (pIx (eM (mBin modD (eN 5) (eC (.int 13))))))))) pNo (pIx (eN 1))))
    sNil)
  (sSeq (sIf (tM (mBin eqD (eN 4) (eC (.int 2))))
    (sSeq (sSet 6 (mBin addD (eN 6) (eM (mBin mulD (eN 6) (eM (mBlt (on1 intD) (aCons (eM (mBin eqD (eM (mBlt (on1 lenD) (aCons (eN 6) aNil))) (eC (.int 2)))) aNil)))))))
  (sSeq (sSet 8 (mBin modD (eN 5) (eM (mBlt (on1 lenD) (aCons (eN 6) aNil)))))
  (sRet (mLc [9] (iRng1 (eN 1)) (gN 9) tTrue (eM (mBin addD (eM (mBin addD (eM (mSl (eN 6) pNo (pIx (eN 8)))) (eM (mBin ixD (eN 2) (eM (mBin modD (eM (mBin addD (eN 5) (eN 9))) (eC (.int 26)))))))) (eM (mSl (eN 6) (pIx (eM (mBin addD (eN 8) (eC (.int 1))))) pNo))))))))
    sNil)
  (sRet (mLc [9] (iRng1 (eN 1)) (gN 9) tTrue (eM (mBin addD (eM (mBin ixD (eN 2) (eM (mBin modD (eM (mBin addD (eN 5) (eM (mBin fdivD (eN 9) (eC (.int 3)))))) (eC (.int 26)))))) (eM (mBin ixD (eM (mLst (aCons (eC (.str "")) (aCons (eC (.str "1")) (aCons (eC (.str "12")) aNil))))) (eM (mBin modD (eN 9) (eC (.int 3))))))))))))))))))
def g__law_words (call : Str → List M → CR) : List M → CR := runFn 2 11 (kpl [true, true]) (b__law_words call)
def b__law_plain (call : Str → List M → CR) : FS :=
  (sSeq (sSet 2 (mCall (call "_law_take") (aCons (eN 0) (aCons (eC (.int 8)) aNil))))
  (sSeq (sIf (tAnd' (tM (mBin gtD (eN 2) (eC (.int 3)))) (tM (mBin neD (eN 1) (eM (mLst aNil)))))
    (sRet (mTup (aCons (eC (.str "name")) (aCons (eM (mBin ixD (eN 1) (eM (mCall (call "_law_take") (aCons (eN 0) (aCons (eM (mBlt (on1 lenD) (aCons (eN 1) aNil))) aNil)))))) aNil))))
    sNil)
  (sSeq (sIf (tM (mBin eqD (eN 2) (eC (.int 0))))
    (sRet (mTup (aCons (eC (.str "truth")) (aCons (eM (mBin eqD (eM (mCall (call "_law_take") (aCons (eN 0) (aCons (eC (.int 2)) aNil)))) (eC (.int 1)))) aNil))))
    sNil)
  (sSeq (sIf (tM (mBin eqD (eM (mCall (call "_law_take") (aCons (eN 0) (aCons (eC (.int 8)) aNil)))) (eC (.int 7))))
    (sRet (mTup (aCons (eC (.str "number")) (aCons (eM (mCall (call "_law_take") (aCons (eN 0) (aCons (eM (mBin addD (eM (mBin powD (eC (.int 10)) (eC (.int 9)))) (eC (.int 1)))) aNil)))) aNil))))
    sNil)
  (sRet (mTup (aCons (eC (.str "number")) (aCons (eM (mCall (call "_law_take") (aCons (eN 0) (aCons (eC (.int 5)) aNil)))) aNil))))))))
def g__law_plain (call : Str → List M → CR) : List M → CR := runFn 2 3 (kpl [true, true]) (b__law_plain call)
def b__law_node (call : Str → List M → CR) : FS :=
  (sSeq (sIf (tM (mBin ltD (eN 1) (eC (.int 5))))
    (sRet (mTup (aCons (eC (.str "call")) (aCons (eM (mBin ixD (eN 2) (eC (.int 0)))) (aCons (eM (mBlt (on1 tupleD) (aCons (eN 3) aNil))) aNil)))))
    sNil)
  (sSeq (sIf (tM (mBin ltD (eN 1) (eC (.int 8))))
    (sRet (mTup (aCons (eC (.str "do")) (aCons (eM (mBin ixD (eC (.str "+-*/<=")) (eM (mCall (call "_law_take") (aCons (eN 0) (aCons (eC (.int 6)) aNil)))))) (aCons (eM (mBin ixD (eN 3) (eC (.int 0)))) (aCons (eM (mBin ixD (eN 3) (eC (.int 1)))) aNil))))))
    sNil)
  (sSeq (sIf (tM (mBin eqD (eN 1) (eC (.int 8))))
    (sRet (mTup (aCons (eC (.str "parts")) (aCons (eM (mBlt (on1 tupleD) (aCons (eN 3) aNil))) aNil))))
    sNil)
  (sSeq (sIf (tM (mBin eqD (eN 1) (eC (.int 9))))
    (sRet (mBin ixD (eM (mLst (aCons (eM (mTup (aCons (eC (.str "many")) (aCons (eM (mBin ixD (eN 3) (eC (.int 0)))) aNil)))) (aCons (eM (mTup (aCons (eC (.str "pick")) (aCons (eM (mBin addD (eC (.int 1)) (eM (mCall (call "_law_take") (aCons (eN 0) (aCons (eC (.int 4)) aNil)))))) (aCons (eM (mBin ixD (eN 3) (eC (.int 0)))) aNil))))) aNil)))) (eM (mCall (call "_law_take") (aCons (eN 0) (aCons (eC (.int 2)) aNil))))))
    sNil)
  (sSeq (sIf (tAnd' (tM (mBin eqD (eN 1) (eC (.int 10)))) (tM (mBin eqD (eM (mBin ixD (eM (mBin ixD (eN 3) (eC (.int 0)))) (eC (.int 0)))) (eC (.str "number")))))
    (sRet (mTup (aCons (eC (.str "if")) (aCons (eM (mTup (aCons (eC (.str "truth")) (aCons (eM (mBin eqD (eM (mBin modD (eM (mBin ixD (eM (mBin ixD (eN 3) (eC (.int 0)))) (eC (.int 1)))) (eC (.int 2)))) (eC (.int 1)))) aNil)))) (aCons (eM (mBin ixD (eN 3) (eC (.int 1)))) (aCons (eM (mBin ixD (eN 3) (eC (.int 2)))) aNil))))))
    sNil)
  (sSeq (sIf (tM (mBin eqD (eN 1) (eC (.int 10))))
    (sRet (mTup (aCons (eC (.str "if")) (aCons (eM (mBin ixD (eN 3) (eC (.int 0)))) (aCons (eM (mBin ixD (eN 3) (eC (.int 1)))) (aCons (eM (mBin ixD (eN 3) (eC (.int 2)))) aNil))))))
    sNil)
  (sSeq (sIf (tM (mBin ltD (eN 1) (eC (.int 13))))
    (sRet (mTup (aCons (eC (.str "let")) (aCons (eM (mBin ixD (eN 4) (eC (.int 0)))) (aCons (eM (mBin ixD (eN 3) (eC (.int 0)))) (aCons (eM (mBin ixD (eN 3) (eC (.int 1)))) aNil))))))
    sNil)
  (sSeq (sIf (tM (mBin eqD (eN 1) (eC (.int 13))))
    (sSeq (sSet 5 (mBin ixD (eM (mLst (aCons (eM (mBin ixD (eN 3) (eC (.int 1)))) (aCons (eM (mTup (aCons (eC (.str "number")) (aCons (eM (mCall (call "_law_take") (aCons (eN 0) (aCons (eC (.int 4)) aNil)))) aNil)))) aNil)))) (eM (mCall (call "_law_take") (aCons (eN 0) (aCons (eC (.int 2)) aNil))))))
  (sRet (mTup (aCons (eC (.str "loop")) (aCons (eM (mBin ixD (eN 4) (eC (.int 0)))) (aCons (eM (mBin ixD (eN 3) (eC (.int 0)))) (aCons (eM (mBin ixD (eN 4) (eC (.int 1)))) (aCons (eN 5) (aCons (eM (mBin ixD (eN 3) (eC (.int 2)))) aNil)))))))))
    sNil)
  (sSeq (sIf (tAnd' (tM (mBin eqD (eN 1) (eC (.int 14)))) (tM (mBin eqD (eN 3) (eM (mLst aNil)))))
    (sRet (mTup (aCons (eC (.str "raise")) (aCons (eM (mBin ixD (eN 4) (eC (.int 0)))) aNil))))
    sNil)
  (sSeq (sIf (tM (mBin eqD (eN 1) (eC (.int 14))))
    (sRet (mTup (aCons (eC (.str "try")) (aCons (eM (mBin ixD (eN 3) (eC (.int 0)))) (aCons (eM (mBin ixD (eM (mLst (aCons (eM (mBin ixD (eN 4) (eC (.int 0)))) (aCons (eC (.str "kind")) (aCons (eC (.str "far")) (aCons (eC (.str "lack")) aNil)))))) (eM (mCall (call "_law_take") (aCons (eN 0) (aCons (eC (.int 4)) aNil)))))) (aCons (eM (mBin ixD (eN 3) (eC (.int 1)))) aNil))))))
    sNil)
  (sRet (mTup (aCons (eC (.str "mark")) (aCons (eM (mBin ixD (eM (mLst (aCons (eM (mCall (call "_law_take") (aCons (eN 0) (aCons (eC (.int 10)) aNil)))) (aCons (eM (mBin powD (eC (.int 10)) (eC (.int 9)))) aNil)))) (eM (mBlt (on1 intD) (aCons (eM (mBin eqD (eM (mCall (call "_law_take") (aCons (eN 0) (aCons (eC (.int 16)) aNil)))) (eC (.int 15)))) aNil))))) (aCons (eM (mBin ixD (eN 3) (eC (.int 0)))) aNil)))))))))))))))
def g__law_node (call : Str → List M → CR) : List M → CR := runFn 5 6 (kpl [true, true, true, true, true]) (b__law_node call)
def b__law_any (call : Str → List M → CR) : FS :=
  (sSeq (sSet 4 (mCall (call "_law_take") (aCons (eN 0) (aCons (eC (.int 18)) aNil))))
  (sSeq (sSet 5 (mCall (call "_law_take") (aCons (eN 0) (aCons (eM (mBlt (on1 lenD) (aCons (eN 1) aNil))) aNil))))
  (sSeq (sSet 6 (mTup (aCons (eM (mBin ixD (eN 1) (eN 5))) (aCons (eM (mBin ixD (eN 1) (eM (mBin modD (eM (mBin addD (eN 5) (eC (.int 1)))) (eM (mBlt (on1 lenD) (aCons (eN 1) aNil))))))) aNil))))
  (sSeq (sSet 7 (mCall (call "_law_take") (aCons (eN 0) (aCons (eC (.int 5)) aNil))))
  (sSeq (sSet 8 (mBin ixD (eM (mBin addD (eM (mBin addD (eM (mBin mulD (eM (mLst (aCons (eN 7) aNil))) (eC (.int 5)))) (eM (mLst (aCons (eC (.int 2)) (aCons (eC (.int 2)) (aCons (eC (.int 2)) (aCons (eN 7) (aCons (eC (.int 1)) (aCons (eC (.int 3)) (aCons (eC (.int 2)) (aCons (eC (.int 2)) (aCons (eC (.int 3)) (aCons (eM (mBin mulD (eC (.int 2)) (eM (mBin modD (eN 7) (eC (.int 2)))))) (aCons (eC (.int 1)) aNil))))))))))))))) (eM (mBin mulD (eM (mLst (aCons (eM (mBin addD (eC (.int 1)) (eN 7))) aNil))) (eC (.int 2)))))) (eN 4)))
  (sSeq (sIf (tOr' (tM (mBin ltD (eN 2) (eM (mBin addD (eC (.int 1)) (eN 8))))) (tM (mBin ltD (eN 3) (eC (.int 2)))))
    (sRet (mCall (call "_law_plain") (aCons (eN 0) (aCons (eN 1) aNil))))
    sNil)
  (sSeq (sSet 9 (mBin fdivD (eM (mBin subD (eN 2) (eC (.int 1)))) (eM (mBlt (on2 maxD) (aCons (eC (.int 1)) (aCons (eN 8) aNil))))))
  (sSeq (sSet 10 (mLc [12] (iRng1 (eN 8)) (gN 12) tTrue (eM (mCall (call "_law_any") (aCons (eN 0) (aCons (eN 1) (aCons (eN 9) (aCons (eM (mBin subD (eN 3) (eC (.int 1)))) aNil))))))))
  (sSeq (sIf (tM (mBin ltD (eN 4) (eC (.int 16))))
    (sRet (mCall (call "_law_node") (aCons (eN 0) (aCons (eN 4) (aCons (eN 6) (aCons (eN 10) (aCons (eN 6) aNil)))))))
    sNil)
  (sSeq (sSet 11 (mLc [12] (iRng1 (eN 7)) (gN 12) tTrue (eM (mTup (aCons (eM (mBin ixD (eN 1) (eM (mBin modD (eM (mBin addD (eN 5) (eN 12))) (eM (mBlt (on1 lenD) (aCons (eN 1) aNil))))))) (aCons (eM (mBin ixD (eN 10) (eN 12))) aNil))))))
  (sRet (mTup (aCons (eC (.str "melt")) (aCons (eM (mBin ixD (eN 6) (eC (.int 1)))) (aCons (eM (mBlt (on1 tupleD) (aCons (eN 11) aNil))) (aCons (eM (mBin ixD (eN 10) (eM (mNeg (eC (.int 1)))))) aNil))))))))))))))))
def g__law_any (call : Str → List M → CR) : List M → CR := runFn 4 13 (kpl [true, true, true, true]) (b__law_any call)
def b__law_parts (call : Str → List M → CR) : FS :=
  (sSeq (sSet 1 (mBin ixD (eN 0) (eC (.int 0))))
  (sSeq (sIf (tM (mBin inD (eN 1) (eM (mTup (aCons (eC (.str "number")) (aCons (eC (.str "truth")) (aCons (eC (.str "name")) (aCons (eC (.str "raise")) aNil))))))))
    (sRet (mLst aNil))
    sNil)
  (sSeq (sIf (tM (mBin inD (eN 1) (eM (mTup (aCons (eC (.str "do")) (aCons (eC (.str "let")) aNil))))))
    (sRet (mLst (aCons (eM (mBin ixD (eN 0) (eC (.int 2)))) (aCons (eM (mBin ixD (eN 0) (eC (.int 3)))) aNil))))
    sNil)
  (sSeq (sIf (tM (mBin inD (eN 1) (eM (mTup (aCons (eC (.str "pick")) (aCons (eC (.str "mark")) aNil))))))
    (sRet (mLst (aCons (eM (mBin ixD (eN 0) (eC (.int 2)))) aNil)))
    sNil)
  (sSeq (sIf (tM (mBin inD (eN 1) (eM (mTup (aCons (eC (.str "many")) (aCons (eC (.str "if")) aNil))))))
    (sRet (mBlt (on1 listD) (aCons (eM (mSl (eN 0) (pIx (eC (.int 1))) pNo)) aNil)))
    sNil)
  (sSeq (sIf (tM (mBin eqD (eN 1) (eC (.str "parts"))))
    (sRet (mBlt (on1 listD) (aCons (eM (mBin ixD (eN 0) (eC (.int 1)))) aNil)))
    sNil)
  (sSeq (sIf (tM (mBin eqD (eN 1) (eC (.str "loop"))))
    (sRet (mLst (aCons (eM (mBin ixD (eN 0) (eC (.int 2)))) (aCons (eM (mBin ixD (eN 0) (eC (.int 4)))) (aCons (eM (mBin ixD (eN 0) (eC (.int 5)))) aNil)))))
    sNil)
  (sSeq (sIf (tM (mBin eqD (eN 1) (eC (.str "try"))))
    (sRet (mLst (aCons (eM (mBin ixD (eN 0) (eC (.int 1)))) (aCons (eM (mBin ixD (eN 0) (eC (.int 3)))) aNil))))
    sNil)
  (sSeq (sIf (tM (mBin eqD (eN 1) (eC (.str "call"))))
    (sRet (mBlt (on1 listD) (aCons (eM (mBin ixD (eN 0) (eC (.int 2)))) aNil)))
    sNil)
  (sRet (mBin addD (eM (mLc [2] (iSeq (eM (mBin ixD (eN 0) (eC (.int 2))))) (gN 2) tTrue (eM (mBin ixD (eN 2) (eC (.int 1)))))) (eM (mLst (aCons (eM (mBin ixD (eN 0) (eC (.int 3)))) aNil))))))))))))))
def g__law_parts (call : Str → List M → CR) : List M → CR := runFn 1 3 (kpl [true]) (b__law_parts call)
def b__law_thawed (call : Str → List M → CR) : FS :=
  (sSeq (sSet 1 (mBin ixD (eN 0) (eC (.int 0))))
  (sSeq (sIf (tM (mBin inD (eN 1) (eM (mTup (aCons (eC (.str "number")) (aCons (eC (.str "truth")) (aCons (eC (.str "name")) (aCons (eC (.str "raise")) aNil))))))))
    (sRetV 0)
    sNil)
  (sSeq (sSet 2 (mLc [3] (iSeq (eM (mCall (call "_law_parts") (aCons (eN 0) aNil)))) (gN 3) tTrue (eM (mCall (call "_law_thawed") (aCons (eN 3) aNil)))))
  (sSeq (sIf (tM (mBin inD (eN 1) (eM (mTup (aCons (eC (.str "do")) (aCons (eC (.str "let")) (aCons (eC (.str "pick")) (aCons (eC (.str "mark")) aNil))))))))
    (sRet (mBin addD (eM (mSl (eN 0) pNo (pIx (eC (.int 2))))) (eM (mBlt (on1 tupleD) (aCons (eN 2) aNil)))))
    sNil)
  (sSeq (sIf (tM (mBin inD (eN 1) (eM (mTup (aCons (eC (.str "many")) (aCons (eC (.str "if")) aNil))))))
    (sRet (mBin addD (eM (mTup (aCons (eN 1) aNil))) (eM (mBlt (on1 tupleD) (aCons (eN 2) aNil)))))
    sNil)
  (sSeq (sIf (tM (mBin eqD (eN 1) (eC (.str "parts"))))
    (sRet (mTup (aCons (eC (.str "parts")) (aCons (eM (mBlt (on1 tupleD) (aCons (eN 2) aNil))) aNil))))
    sNil)
  (sSeq (sIf (tM (mBin eqD (eN 1) (eC (.str "loop"))))
    (sRet (mTup (aCons (eC (.str "loop")) (aCons (eM (mBin ixD (eN 0) (eC (.int 1)))) (aCons (eM (mBin ixD (eN 2) (eC (.int 0)))) (aCons (eM (mBin ixD (eN 0) (eC (.int 3)))) (aCons (eM (mBin ixD (eN 2) (eC (.int 1)))) (aCons (eM (mBin ixD (eN 2) (eC (.int 2)))) aNil))))))))
    sNil)
  (sSeq (sIf (tM (mBin eqD (eN 1) (eC (.str "try"))))
    (sRet (mTup (aCons (eC (.str "try")) (aCons (eM (mBin ixD (eN 2) (eC (.int 0)))) (aCons (eM (mBin ixD (eN 0) (eC (.int 2)))) (aCons (eM (mBin ixD (eN 2) (eC (.int 1)))) aNil))))))
    sNil)
  (sSeq (sIf (tM (mBin eqD (eN 1) (eC (.str "melt"))))
    (sSet 2 (mSl (eN 2) pNo (pIx (eM (mNeg (eC (.int 1)))))))
    sNil)
  (sRet (mTup (aCons (eC (.str "call")) (aCons (eM (mBin ixD (eN 0) (eC (.int 1)))) (aCons (eM (mBlt (on1 tupleD) (aCons (eN 2) aNil))) aNil))))))))))))))
def g__law_thawed (call : Str → List M → CR) : List M → CR := runFn 1 4 (kpl [true]) (b__law_thawed call)
def b__law_melted (call : Str → List M → CR) : FS :=
  (sSeq (sIf (tAnd' (tM (mBin eqD (eM (mBin ixD (eN 1) (eC (.int 0)))) (eC (.str "call")))) (tM (mBin eqD (eM (mCall (call "_law_take") (aCons (eN 0) (aCons (eC (.int 2)) aNil)))) (eC (.int 0)))))
    (sSeq (sSet 3 (mLc [5] (iRng1 (eM (mBlt (on1 lenD) (aCons (eM (mBin ixD (eN 1) (eC (.int 2)))) aNil)))) (gN 5) tTrue (eM (mTup (aCons (eM (mBin ixD (eN 2) (eN 5))) (aCons (eM (mCall (call "_law_melted") (aCons (eN 0) (aCons (eM (mBin ixD (eM (mBin ixD (eN 1) (eC (.int 2)))) (eN 5))) (aCons (eN 2) aNil))))) aNil))))))
  (sRet (mTup (aCons (eC (.str "melt")) (aCons (eM (mBin ixD (eN 1) (eC (.int 1)))) (aCons (eM (mBlt (on1 tupleD) (aCons (eN 3) aNil))) (aCons (eM (mCall (call "_law_any") (aCons (eN 0) (aCons (eN 2) (aCons (eC (.int 6)) (aCons (eC (.int 3)) aNil)))))) aNil)))))))
    sNil)
  (sSeq (sIf (tM (mBin eqD (eM (mBin ixD (eN 1) (eC (.int 0)))) (eC (.str "call"))))
    (sRet (mTup (aCons (eC (.str "call")) (aCons (eM (mBin ixD (eN 1) (eC (.int 1)))) (aCons (eM (mBlt (on1 tupleD) (aCons (eM (mLc [6] (iSeq (eM (mBin ixD (eN 1) (eC (.int 2))))) (gN 6) tTrue (eM (mCall (call "_law_melted") (aCons (eN 0) (aCons (eN 6) (aCons (eN 2) aNil))))))) aNil))) aNil)))))
    sNil)
  (sSeq (sIf (tM (mBin inD (eM (mBin ixD (eN 1) (eC (.int 0)))) (eM (mTup (aCons (eC (.str "do")) (aCons (eC (.str "let")) aNil))))))
    (sSeq (sSet 4 (mCall (call "_law_melted") (aCons (eN 0) (aCons (eM (mBin ixD (eN 1) (eC (.int 2)))) (aCons (eN 2) aNil)))))
  (sRet (mBin addD (eM (mSl (eN 1) pNo (pIx (eC (.int 2))))) (eM (mTup (aCons (eN 4) (aCons (eM (mCall (call "_law_melted") (aCons (eN 0) (aCons (eM (mBin ixD (eN 1) (eC (.int 3)))) (aCons (eN 2) aNil))))) aNil)))))))
    sNil)
  (sSeq (sIf (tM (mBin eqD (eM (mBin ixD (eN 1) (eC (.int 0)))) (eC (.str "parts"))))
    (sRet (mTup (aCons (eC (.str "parts")) (aCons (eM (mBlt (on1 tupleD) (aCons (eM (mLc [6] (iSeq (eM (mBin ixD (eN 1) (eC (.int 1))))) (gN 6) tTrue (eM (mCall (call "_law_melted") (aCons (eN 0) (aCons (eN 6) (aCons (eN 2) aNil))))))) aNil))) aNil))))
    sNil)
  (sRetV 1)))))
def g__law_melted (call : Str → List M → CR) : List M → CR := runFn 3 7 (kpl [true, true, true]) (b__law_melted call)
def b_law (call : Str → List M → CR) : FS :=
  (sSeq (sSet 1 (mCall (call "_law_bag") (aCons (eN 0) aNil)))
  (sSeq (sSet 2 (mCall (call "_law_words") (aCons (eN 1) (aCons (eC (.int 5)) aNil))))
  (sSeq (sSet 3 (mLc [9] (iRng1 (eC (.int 4))) (gN 9) tTrue (eM (mCall (call "_law_any") (aCons (eN 1) (aCons (eN 2) (aCons (eM (mBin ixD (eM (mLst (aCons (eC (.int 6)) (aCons (eC (.int 20)) (aCons (eC (.int 40)) aNil))))) (eM (mCall (call "_law_take") (aCons (eN 1) (aCons (eC (.int 3)) aNil)))))) (aCons (eM (mBin addD (eC (.int 2)) (eM (mCall (call "_law_take") (aCons (eN 1) (aCons (eC (.int 6)) aNil)))))) aNil))))))))
  (sSeq (sExpr (mApp 3 (eM (mTup (aCons (eC (.str "melt")) (aCons (eM (mBin ixD (eN 2) (eC (.int 0)))) (aCons (eM (mTup (aCons (eM (mTup (aCons (eM (mBin ixD (eN 2) (eC (.int 1)))) (aCons (eM (mBin ixD (eN 3) (eC (.int 0)))) aNil)))) (aCons (eM (mTup (aCons (eM (mBin ixD (eN 2) (eC (.int 2)))) (aCons (eM (mBin ixD (eN 3) (eC (.int 1)))) aNil)))) (aCons (eM (mTup (aCons (eM (mBin ixD (eN 2) (eC (.int 1)))) (aCons (eM (mTup (aCons (eC (.str "number")) (aCons (eC (.int 2)) aNil)))) aNil)))) aNil))))) (aCons (eM (mBin ixD (eN 3) (eC (.int 2)))) aNil))))))))
  (sSeq (sExpr (mApp 3 (eM (mBin ixD (eM (mLst (aCons (eM (mTup (aCons (eC (.str "number")) (aCons (eC (.int 1)) aNil)))) (aCons (eM (mTup (aCons (eC (.str "truth")) (aCons (eC (.bl true)) aNil)))) (aCons (eM (mTup (aCons (eC (.str "name")) (aCons (eM (mBin ixD (eN 2) (eC (.int 4)))) aNil)))) aNil))))) (eM (mCall (call "_law_take") (aCons (eN 1) (aCons (eC (.int 3)) aNil))))))))
  (sSeq (sFor (iSeq (eM (mBin addD (eN 3) (eM (mSl (eN 3) pNo (pIx (eC (.int 1)))))))) (gN 4)
    (sSeq (sSet 5 (mCall (call "_law_thawed") (aCons (eN 4) aNil)))
  (sSeq (sSet 6 (mBlt (on1 reprD) (aCons (eN 4) aNil)))
  (sSeq (sSet 7 (mCall (call "thawed") (aCons (eN 4) aNil)))
  (sSeq (sIf (tOr' (tM (mBin neD (eM (mBlt (on1 reprD) (aCons (eN 7) aNil))) (eM (mBlt (on1 reprD) (aCons (eN 5) aNil))))) (tOr' (tM (mBin neD (eM (mBlt (on1 reprD) (aCons (eN 4) aNil))) (eN 6))) (tNot' (tM (mCall (call "is_tree") (aCons (eN 7) aNil))))))
    (sRet (mE (eC (.bl false))))
    sNil)
  (sSeq (sIf (tM (mBin neD (eM (mBlt (on1 reprD) (aCons (eM (mCall (call "thawed") (aCons (eN 7) aNil))) aNil))) (eM (mBlt (on1 reprD) (aCons (eN 5) aNil)))))
    (sRet (mE (eC (.bl false))))
    sNil)
  (sSeq (sSet 8 (mCall (call "_law_melted") (aCons (eN 1) (aCons (eN 5) (aCons (eN 2) aNil)))))
  (sIf (tOr' (tNot' (tM (mCall (call "is_tree") (aCons (eN 8) aNil)))) (tM (mBin neD (eM (mBlt (on1 reprD) (aCons (eM (mCall (call "thawed") (aCons (eN 8) aNil))) aNil))) (eM (mBlt (on1 reprD) (aCons (eN 5) aNil))))))
    (sRet (mE (eC (.bl false))))
    sNil))))))))
  (sRet (mE (eC (.bl true))))))))))
def g_law (call : Str → List M → CR) : List M → CR := runFn 1 10 (kpl [true]) (b_law call)
noncomputable def tbl (call : Str → List M → CR) (f : Str) : List M → CR :=
  if f = "is_whole" then g_is_whole call else if f = "is_from_to" then g_is_from_to call else if f = "stem_of" then g_stem_of call else if f = "is_word" then g_is_word call else if f = "is_row" then g_is_row call else if f = "is_bare" then g_is_bare call else if f = "are_pairs" then g_are_pairs call else if f = "has_words" then g_has_words call else if f = "is_node" then g_is_node call else if f = "parts_of" then g_parts_of call else if f = "counted_parts" then g_counted_parts call else if f = "is_tree" then g_is_tree call else if f = "with_parts" then g_with_parts call else if f = "thawed" then g_thawed call else if f = "_law_bag" then g__law_bag call else if f = "_law_take" then g__law_take call else if f = "_law_words" then g__law_words call else if f = "_law_plain" then g__law_plain call else if f = "_law_node" then g__law_node call else if f = "_law_any" then g__law_any call else if f = "_law_parts" then g__law_parts call else if f = "_law_thawed" then g__law_thawed call else if f = "_law_melted" then g__law_melted call else if f = "law" then g_law call else fun _ => .no
noncomputable def den : Nat → Str → List M → CR
  | 0, _ => fun _ => .no
  | n + 1, f => tbl (den n) f
theorem den_is_whole (n : Nat) : den (n + 1) "is_whole" = g_is_whole (den n) := by (first | rfl | simp [den, tbl])
theorem den_is_from_to (n : Nat) : den (n + 1) "is_from_to" = g_is_from_to (den n) := by (first | rfl | simp [den, tbl])
theorem den_stem_of (n : Nat) : den (n + 1) "stem_of" = g_stem_of (den n) := by (first | rfl | simp [den, tbl])
theorem den_is_word (n : Nat) : den (n + 1) "is_word" = g_is_word (den n) := by (first | rfl | simp [den, tbl])
theorem den_is_row (n : Nat) : den (n + 1) "is_row" = g_is_row (den n) := by (first | rfl | simp [den, tbl])
theorem den_is_bare (n : Nat) : den (n + 1) "is_bare" = g_is_bare (den n) := by (first | rfl | simp [den, tbl])
theorem den_are_pairs (n : Nat) : den (n + 1) "are_pairs" = g_are_pairs (den n) := by (first | rfl | simp [den, tbl])
theorem den_has_words (n : Nat) : den (n + 1) "has_words" = g_has_words (den n) := by (first | rfl | simp [den, tbl])
theorem den_is_node (n : Nat) : den (n + 1) "is_node" = g_is_node (den n) := by (first | rfl | simp [den, tbl])
theorem den_parts_of (n : Nat) : den (n + 1) "parts_of" = g_parts_of (den n) := by (first | rfl | simp [den, tbl])
theorem den_counted_parts (n : Nat) : den (n + 1) "counted_parts" = g_counted_parts (den n) := by (first | rfl | simp [den, tbl])
theorem den_is_tree (n : Nat) : den (n + 1) "is_tree" = g_is_tree (den n) := by (first | rfl | simp [den, tbl])
theorem den_with_parts (n : Nat) : den (n + 1) "with_parts" = g_with_parts (den n) := by (first | rfl | simp [den, tbl])
theorem den_thawed (n : Nat) : den (n + 1) "thawed" = g_thawed (den n) := by (first | rfl | simp [den, tbl])
theorem den__law_bag (n : Nat) : den (n + 1) "_law_bag" = g__law_bag (den n) := by (first | rfl | simp [den, tbl])
theorem den__law_take (n : Nat) : den (n + 1) "_law_take" = g__law_take (den n) := by (first | rfl | simp [den, tbl])
theorem den__law_words (n : Nat) : den (n + 1) "_law_words" = g__law_words (den n) := by (first | rfl | simp [den, tbl])
theorem den__law_plain (n : Nat) : den (n + 1) "_law_plain" = g__law_plain (den n) := by (first | rfl | simp [den, tbl])
theorem den__law_node (n : Nat) : den (n + 1) "_law_node" = g__law_node (den n) := by (first | rfl | simp [den, tbl])
theorem den__law_any (n : Nat) : den (n + 1) "_law_any" = g__law_any (den n) := by (first | rfl | simp [den, tbl])
theorem den__law_parts (n : Nat) : den (n + 1) "_law_parts" = g__law_parts (den n) := by (first | rfl | simp [den, tbl])
theorem den__law_thawed (n : Nat) : den (n + 1) "_law_thawed" = g__law_thawed (den n) := by (first | rfl | simp [den, tbl])
theorem den__law_melted (n : Nat) : den (n + 1) "_law_melted" = g__law_melted (den n) := by (first | rfl | simp [den, tbl])
theorem den_law (n : Nat) : den (n + 1) "law" = g_law (den n) := by (first | rfl | simp [den, tbl])
@[simp] theorem sn_0_1 : ¬ (("" : Str) = "+-*/<=") := by decide +kernel
@[simp] theorem sb_0_1 : (("" : Str) == "+-*/<=") = false := by decide +kernel
@[simp] theorem sn_0_2 : ¬ (("" : Str) = "0") := by decide +kernel
@[simp] theorem sb_0_2 : (("" : Str) == "0") = false := by decide +kernel
@[simp] theorem sn_0_3 : ¬ (("" : Str) = "0123456789") := by decide +kernel
@[simp] theorem sb_0_3 : (("" : Str) == "0123456789") = false := by decide +kernel
@[simp] theorem sn_0_4 : ¬ (("" : Str) = "1") := by decide +kernel
@[simp] theorem sb_0_4 : (("" : Str) == "1") = false := by decide +kernel
@[simp] theorem sn_0_5 : ¬ (("" : Str) = "10") := by decide +kernel
@[simp] theorem sb_0_5 : (("" : Str) == "10") = false := by decide +kernel
@[simp] theorem sn_0_6 : ¬ (("" : Str) = "100") := by decide +kernel
@[simp] theorem sb_0_6 : (("" : Str) == "100") = false := by decide +kernel
@[simp] theorem sn_0_7 : ¬ (("" : Str) = "11") := by decide +kernel
@[simp] theorem sb_0_7 : (("" : Str) == "11") = false := by decide +kernel
@[simp] theorem sn_0_8 : ¬ (("" : Str) = "12") := by decide +kernel
@[simp] theorem sb_0_8 : (("" : Str) == "12") = false := by decide +kernel
@[simp] theorem sn_0_9 : ¬ (("" : Str) = "2") := by decide +kernel
@[simp] theorem sb_0_9 : (("" : Str) == "2") = false := by decide +kernel
@[simp] theorem sn_0_10 : ¬ (("" : Str) = "20") := by decide +kernel
@[simp] theorem sb_0_10 : (("" : Str) == "20") = false := by decide +kernel
@[simp] theorem sn_0_11 : ¬ (("" : Str) = "21") := by decide +kernel
@[simp] theorem sb_0_11 : (("" : Str) == "21") = false := by decide +kernel
@[simp] theorem sn_0_12 : ¬ (("" : Str) = "3") := by decide +kernel
@[simp] theorem sb_0_12 : (("" : Str) == "3") = false := by decide +kernel
@[simp] theorem sn_0_13 : ¬ (("" : Str) = "9") := by decide +kernel
@[simp] theorem sb_0_13 : (("" : Str) == "9") = false := by decide +kernel
@[simp] theorem sn_0_14 : ¬ (("" : Str) = "999") := by decide +kernel
@[simp] theorem sb_0_14 : (("" : Str) == "999") = false := by decide +kernel
@[simp] theorem sn_0_15 : ¬ (("" : Str) = "abcdefghijklmnopqrstuvwxyz") := by decide +kernel
@[simp] theorem sb_0_15 : (("" : Str) == "abcdefghijklmnopqrstuvwxyz") = false := by decide +kernel
@[simp] theorem sn_0_16 : ¬ (("" : Str) = "call") := by decide +kernel
@[simp] theorem sb_0_16 : (("" : Str) == "call") = false := by decide +kernel
@[simp] theorem sn_0_17 : ¬ (("" : Str) = "do") := by decide +kernel
@[simp] theorem sb_0_17 : (("" : Str) == "do") = false := by decide +kernel
@[simp] theorem sn_0_18 : ¬ (("" : Str) = "dry") := by decide +kernel
@[simp] theorem sb_0_18 : (("" : Str) == "dry") = false := by decide +kernel
@[simp] theorem sn_0_19 : ¬ (("" : Str) = "far") := by decide +kernel
@[simp] theorem sb_0_19 : (("" : Str) == "far") = false := by decide +kernel
@[simp] theorem sn_0_20 : ¬ (("" : Str) = "if") := by decide +kernel
@[simp] theorem sb_0_20 : (("" : Str) == "if") = false := by decide +kernel
@[simp] theorem sn_0_21 : ¬ (("" : Str) = "kind") := by decide +kernel
@[simp] theorem sb_0_21 : (("" : Str) == "kind") = false := by decide +kernel
@[simp] theorem sn_0_22 : ¬ (("" : Str) = "lack") := by decide +kernel
@[simp] theorem sb_0_22 : (("" : Str) == "lack") = false := by decide +kernel
@[simp] theorem sn_0_23 : ¬ (("" : Str) = "let") := by decide +kernel
@[simp] theorem sb_0_23 : (("" : Str) == "let") = false := by decide +kernel
@[simp] theorem sn_0_24 : ¬ (("" : Str) = "loop") := by decide +kernel
@[simp] theorem sb_0_24 : (("" : Str) == "loop") = false := by decide +kernel
@[simp] theorem sn_0_25 : ¬ (("" : Str) = "many") := by decide +kernel
@[simp] theorem sb_0_25 : (("" : Str) == "many") = false := by decide +kernel
@[simp] theorem sn_0_26 : ¬ (("" : Str) = "mark") := by decide +kernel
@[simp] theorem sb_0_26 : (("" : Str) == "mark") = false := by decide +kernel
@[simp] theorem sn_0_27 : ¬ (("" : Str) = "melt") := by decide +kernel
@[simp] theorem sb_0_27 : (("" : Str) == "melt") = false := by decide +kernel
@[simp] theorem sn_0_28 : ¬ (("" : Str) = "name") := by decide +kernel
@[simp] theorem sb_0_28 : (("" : Str) == "name") = false := by decide +kernel
@[simp] theorem sn_0_29 : ¬ (("" : Str) = "nought") := by decide +kernel
@[simp] theorem sb_0_29 : (("" : Str) == "nought") = false := by decide +kernel
@[simp] theorem sn_0_30 : ¬ (("" : Str) = "number") := by decide +kernel
@[simp] theorem sb_0_30 : (("" : Str) == "number") = false := by decide +kernel
@[simp] theorem sn_0_31 : ¬ (("" : Str) = "parts") := by decide +kernel
@[simp] theorem sb_0_31 : (("" : Str) == "parts") = false := by decide +kernel
@[simp] theorem sn_0_32 : ¬ (("" : Str) = "pick") := by decide +kernel
@[simp] theorem sb_0_32 : (("" : Str) == "pick") = false := by decide +kernel
@[simp] theorem sn_0_33 : ¬ (("" : Str) = "raise") := by decide +kernel
@[simp] theorem sb_0_33 : (("" : Str) == "raise") = false := by decide +kernel
@[simp] theorem sn_0_34 : ¬ (("" : Str) = "refused") := by decide +kernel
@[simp] theorem sb_0_34 : (("" : Str) == "refused") = false := by decide +kernel
@[simp] theorem sn_0_35 : ¬ (("" : Str) = "root") := by decide +kernel
@[simp] theorem sb_0_35 : (("" : Str) == "root") = false := by decide +kernel
@[simp] theorem sn_0_36 : ¬ (("" : Str) = "told") := by decide +kernel
@[simp] theorem sb_0_36 : (("" : Str) == "told") = false := by decide +kernel
@[simp] theorem sn_0_37 : ¬ (("" : Str) = "truth") := by decide +kernel
@[simp] theorem sb_0_37 : (("" : Str) == "truth") = false := by decide +kernel
@[simp] theorem sn_0_38 : ¬ (("" : Str) = "try") := by decide +kernel
@[simp] theorem sb_0_38 : (("" : Str) == "try") = false := by decide +kernel
@[simp] theorem sn_1_0 : ¬ (("+-*/<=" : Str) = "") := by decide +kernel
@[simp] theorem sb_1_0 : (("+-*/<=" : Str) == "") = false := by decide +kernel
@[simp] theorem sn_1_2 : ¬ (("+-*/<=" : Str) = "0") := by decide +kernel
@[simp] theorem sb_1_2 : (("+-*/<=" : Str) == "0") = false := by decide +kernel
@[simp] theorem sn_1_3 : ¬ (("+-*/<=" : Str) = "0123456789") := by decide +kernel
@[simp] theorem sb_1_3 : (("+-*/<=" : Str) == "0123456789") = false := by decide +kernel
@[simp] theorem sn_1_4 : ¬ (("+-*/<=" : Str) = "1") := by decide +kernel
@[simp] theorem sb_1_4 : (("+-*/<=" : Str) == "1") = false := by decide +kernel
@[simp] theorem sn_1_5 : ¬ (("+-*/<=" : Str) = "10") := by decide +kernel
@[simp] theorem sb_1_5 : (("+-*/<=" : Str) == "10") = false := by decide +kernel
@[simp] theorem sn_1_6 : ¬ (("+-*/<=" : Str) = "100") := by decide +kernel
@[simp] theorem sb_1_6 : (("+-*/<=" : Str) == "100") = false := by decide +kernel
@[simp] theorem sn_1_7 : ¬ (("+-*/<=" : Str) = "11") := by decide +kernel
@[simp] theorem sb_1_7 : (("+-*/<=" : Str) == "11") = false := by decide +kernel
@[simp] theorem sn_1_8 : ¬ (("+-*/<=" : Str) = "12") := by decide +kernel
@[simp] theorem sb_1_8 : (("+-*/<=" : Str) == "12") = false := by decide +kernel
@[simp] theorem sn_1_9 : ¬ (("+-*/<=" : Str) = "2") := by decide +kernel
@[simp] theorem sb_1_9 : (("+-*/<=" : Str) == "2") = false := by decide +kernel
@[simp] theorem sn_1_10 : ¬ (("+-*/<=" : Str) = "20") := by decide +kernel
@[simp] theorem sb_1_10 : (("+-*/<=" : Str) == "20") = false := by decide +kernel
@[simp] theorem sn_1_11 : ¬ (("+-*/<=" : Str) = "21") := by decide +kernel
@[simp] theorem sb_1_11 : (("+-*/<=" : Str) == "21") = false := by decide +kernel
@[simp] theorem sn_1_12 : ¬ (("+-*/<=" : Str) = "3") := by decide +kernel
@[simp] theorem sb_1_12 : (("+-*/<=" : Str) == "3") = false := by decide +kernel
@[simp] theorem sn_1_13 : ¬ (("+-*/<=" : Str) = "9") := by decide +kernel
@[simp] theorem sb_1_13 : (("+-*/<=" : Str) == "9") = false := by decide +kernel
@[simp] theorem sn_1_14 : ¬ (("+-*/<=" : Str) = "999") := by decide +kernel
@[simp] theorem sb_1_14 : (("+-*/<=" : Str) == "999") = false := by decide +kernel
@[simp] theorem sn_1_15 : ¬ (("+-*/<=" : Str) = "abcdefghijklmnopqrstuvwxyz") := by decide +kernel
@[simp] theorem sb_1_15 : (("+-*/<=" : Str) == "abcdefghijklmnopqrstuvwxyz") = false := by decide +kernel
@[simp] theorem sn_1_16 : ¬ (("+-*/<=" : Str) = "call") := by decide +kernel
@[simp] theorem sb_1_16 : (("+-*/<=" : Str) == "call") = false := by decide +kernel
@[simp] theorem sn_1_17 : ¬ (("+-*/<=" : Str) = "do") := by decide +kernel
@[simp] theorem sb_1_17 : (("+-*/<=" : Str) == "do") = false := by decide +kernel
@[simp] theorem sn_1_18 : ¬ (("+-*/<=" : Str) = "dry") := by decide +kernel
@[simp] theorem sb_1_18 : (("+-*/<=" : Str) == "dry") = false := by decide +kernel
@[simp] theorem sn_1_19 : ¬ (("+-*/<=" : Str) = "far") := by decide +kernel
@[simp] theorem sb_1_19 : (("+-*/<=" : Str) == "far") = false := by decide +kernel
@[simp] theorem sn_1_20 : ¬ (("+-*/<=" : Str) = "if") := by decide +kernel
@[simp] theorem sb_1_20 : (("+-*/<=" : Str) == "if") = false := by decide +kernel
@[simp] theorem sn_1_21 : ¬ (("+-*/<=" : Str) = "kind") := by decide +kernel
@[simp] theorem sb_1_21 : (("+-*/<=" : Str) == "kind") = false := by decide +kernel
@[simp] theorem sn_1_22 : ¬ (("+-*/<=" : Str) = "lack") := by decide +kernel
@[simp] theorem sb_1_22 : (("+-*/<=" : Str) == "lack") = false := by decide +kernel
@[simp] theorem sn_1_23 : ¬ (("+-*/<=" : Str) = "let") := by decide +kernel
@[simp] theorem sb_1_23 : (("+-*/<=" : Str) == "let") = false := by decide +kernel
@[simp] theorem sn_1_24 : ¬ (("+-*/<=" : Str) = "loop") := by decide +kernel
@[simp] theorem sb_1_24 : (("+-*/<=" : Str) == "loop") = false := by decide +kernel
@[simp] theorem sn_1_25 : ¬ (("+-*/<=" : Str) = "many") := by decide +kernel
@[simp] theorem sb_1_25 : (("+-*/<=" : Str) == "many") = false := by decide +kernel
@[simp] theorem sn_1_26 : ¬ (("+-*/<=" : Str) = "mark") := by decide +kernel
@[simp] theorem sb_1_26 : (("+-*/<=" : Str) == "mark") = false := by decide +kernel
@[simp] theorem sn_1_27 : ¬ (("+-*/<=" : Str) = "melt") := by decide +kernel
@[simp] theorem sb_1_27 : (("+-*/<=" : Str) == "melt") = false := by decide +kernel
@[simp] theorem sn_1_28 : ¬ (("+-*/<=" : Str) = "name") := by decide +kernel
@[simp] theorem sb_1_28 : (("+-*/<=" : Str) == "name") = false := by decide +kernel
@[simp] theorem sn_1_29 : ¬ (("+-*/<=" : Str) = "nought") := by decide +kernel
@[simp] theorem sb_1_29 : (("+-*/<=" : Str) == "nought") = false := by decide +kernel
@[simp] theorem sn_1_30 : ¬ (("+-*/<=" : Str) = "number") := by decide +kernel
@[simp] theorem sb_1_30 : (("+-*/<=" : Str) == "number") = false := by decide +kernel
@[simp] theorem sn_1_31 : ¬ (("+-*/<=" : Str) = "parts") := by decide +kernel
@[simp] theorem sb_1_31 : (("+-*/<=" : Str) == "parts") = false := by decide +kernel
@[simp] theorem sn_1_32 : ¬ (("+-*/<=" : Str) = "pick") := by decide +kernel
@[simp] theorem sb_1_32 : (("+-*/<=" : Str) == "pick") = false := by decide +kernel
@[simp] theorem sn_1_33 : ¬ (("+-*/<=" : Str) = "raise") := by decide +kernel
@[simp] theorem sb_1_33 : (("+-*/<=" : Str) == "raise") = false := by decide +kernel
@[simp] theorem sn_1_34 : ¬ (("+-*/<=" : Str) = "refused") := by decide +kernel
@[simp] theorem sb_1_34 : (("+-*/<=" : Str) == "refused") = false := by decide +kernel
@[simp] theorem sn_1_35 : ¬ (("+-*/<=" : Str) = "root") := by decide +kernel
@[simp] theorem sb_1_35 : (("+-*/<=" : Str) == "root") = false := by decide +kernel
@[simp] theorem sn_1_36 : ¬ (("+-*/<=" : Str) = "told") := by decide +kernel
@[simp] theorem sb_1_36 : (("+-*/<=" : Str) == "told") = false := by decide +kernel
@[simp] theorem sn_1_37 : ¬ (("+-*/<=" : Str) = "truth") := by decide +kernel
@[simp] theorem sb_1_37 : (("+-*/<=" : Str) == "truth") = false := by decide +kernel
@[simp] theorem sn_1_38 : ¬ (("+-*/<=" : Str) = "try") := by decide +kernel
@[simp] theorem sb_1_38 : (("+-*/<=" : Str) == "try") = false := by decide +kernel
@[simp] theorem sn_2_0 : ¬ (("0" : Str) = "") := by decide +kernel
@[simp] theorem sb_2_0 : (("0" : Str) == "") = false := by decide +kernel
@[simp] theorem sn_2_1 : ¬ (("0" : Str) = "+-*/<=") := by decide +kernel
@[simp] theorem sb_2_1 : (("0" : Str) == "+-*/<=") = false := by decide +kernel
@[simp] theorem sn_2_3 : ¬ (("0" : Str) = "0123456789") := by decide +kernel
@[simp] theorem sb_2_3 : (("0" : Str) == "0123456789") = false := by decide +kernel
@[simp] theorem sn_2_4 : ¬ (("0" : Str) = "1") := by decide +kernel
@[simp] theorem sb_2_4 : (("0" : Str) == "1") = false := by decide +kernel
@[simp] theorem sn_2_5 : ¬ (("0" : Str) = "10") := by decide +kernel
@[simp] theorem sb_2_5 : (("0" : Str) == "10") = false := by decide +kernel
@[simp] theorem sn_2_6 : ¬ (("0" : Str) = "100") := by decide +kernel
@[simp] theorem sb_2_6 : (("0" : Str) == "100") = false := by decide +kernel
@[simp] theorem sn_2_7 : ¬ (("0" : Str) = "11") := by decide +kernel
@[simp] theorem sb_2_7 : (("0" : Str) == "11") = false := by decide +kernel
@[simp] theorem sn_2_8 : ¬ (("0" : Str) = "12") := by decide +kernel
@[simp] theorem sb_2_8 : (("0" : Str) == "12") = false := by decide +kernel
@[simp] theorem sn_2_9 : ¬ (("0" : Str) = "2") := by decide +kernel
@[simp] theorem sb_2_9 : (("0" : Str) == "2") = false := by decide +kernel
@[simp] theorem sn_2_10 : ¬ (("0" : Str) = "20") := by decide +kernel
@[simp] theorem sb_2_10 : (("0" : Str) == "20") = false := by decide +kernel
@[simp] theorem sn_2_11 : ¬ (("0" : Str) = "21") := by decide +kernel
@[simp] theorem sb_2_11 : (("0" : Str) == "21") = false := by decide +kernel
@[simp] theorem sn_2_12 : ¬ (("0" : Str) = "3") := by decide +kernel
@[simp] theorem sb_2_12 : (("0" : Str) == "3") = false := by decide +kernel
@[simp] theorem sn_2_13 : ¬ (("0" : Str) = "9") := by decide +kernel
@[simp] theorem sb_2_13 : (("0" : Str) == "9") = false := by decide +kernel
@[simp] theorem sn_2_14 : ¬ (("0" : Str) = "999") := by decide +kernel
@[simp] theorem sb_2_14 : (("0" : Str) == "999") = false := by decide +kernel
@[simp] theorem sn_2_15 : ¬ (("0" : Str) = "abcdefghijklmnopqrstuvwxyz") := by decide +kernel
@[simp] theorem sb_2_15 : (("0" : Str) == "abcdefghijklmnopqrstuvwxyz") = false := by decide +kernel
@[simp] theorem sn_2_16 : ¬ (("0" : Str) = "call") := by decide +kernel
@[simp] theorem sb_2_16 : (("0" : Str) == "call") = false := by decide +kernel
@[simp] theorem sn_2_17 : ¬ (("0" : Str) = "do") := by decide +kernel
@[simp] theorem sb_2_17 : (("0" : Str) == "do") = false := by decide +kernel
@[simp] theorem sn_2_18 : ¬ (("0" : Str) = "dry") := by decide +kernel
@[simp] theorem sb_2_18 : (("0" : Str) == "dry") = false := by decide +kernel
@[simp] theorem sn_2_19 : ¬ (("0" : Str) = "far") := by decide +kernel
@[simp] theorem sb_2_19 : (("0" : Str) == "far") = false := by decide +kernel
@[simp] theorem sn_2_20 : ¬ (("0" : Str) = "if") := by decide +kernel
@[simp] theorem sb_2_20 : (("0" : Str) == "if") = false := by decide +kernel
@[simp] theorem sn_2_21 : ¬ (("0" : Str) = "kind") := by decide +kernel
@[simp] theorem sb_2_21 : (("0" : Str) == "kind") = false := by decide +kernel
@[simp] theorem sn_2_22 : ¬ (("0" : Str) = "lack") := by decide +kernel
@[simp] theorem sb_2_22 : (("0" : Str) == "lack") = false := by decide +kernel
@[simp] theorem sn_2_23 : ¬ (("0" : Str) = "let") := by decide +kernel
@[simp] theorem sb_2_23 : (("0" : Str) == "let") = false := by decide +kernel
@[simp] theorem sn_2_24 : ¬ (("0" : Str) = "loop") := by decide +kernel
@[simp] theorem sb_2_24 : (("0" : Str) == "loop") = false := by decide +kernel
@[simp] theorem sn_2_25 : ¬ (("0" : Str) = "many") := by decide +kernel
@[simp] theorem sb_2_25 : (("0" : Str) == "many") = false := by decide +kernel
@[simp] theorem sn_2_26 : ¬ (("0" : Str) = "mark") := by decide +kernel
@[simp] theorem sb_2_26 : (("0" : Str) == "mark") = false := by decide +kernel
@[simp] theorem sn_2_27 : ¬ (("0" : Str) = "melt") := by decide +kernel
@[simp] theorem sb_2_27 : (("0" : Str) == "melt") = false := by decide +kernel
@[simp] theorem sn_2_28 : ¬ (("0" : Str) = "name") := by decide +kernel
@[simp] theorem sb_2_28 : (("0" : Str) == "name") = false := by decide +kernel
@[simp] theorem sn_2_29 : ¬ (("0" : Str) = "nought") := by decide +kernel
@[simp] theorem sb_2_29 : (("0" : Str) == "nought") = false := by decide +kernel
@[simp] theorem sn_2_30 : ¬ (("0" : Str) = "number") := by decide +kernel
@[simp] theorem sb_2_30 : (("0" : Str) == "number") = false := by decide +kernel
@[simp] theorem sn_2_31 : ¬ (("0" : Str) = "parts") := by decide +kernel
@[simp] theorem sb_2_31 : (("0" : Str) == "parts") = false := by decide +kernel
@[simp] theorem sn_2_32 : ¬ (("0" : Str) = "pick") := by decide +kernel
@[simp] theorem sb_2_32 : (("0" : Str) == "pick") = false := by decide +kernel
@[simp] theorem sn_2_33 : ¬ (("0" : Str) = "raise") := by decide +kernel
@[simp] theorem sb_2_33 : (("0" : Str) == "raise") = false := by decide +kernel
@[simp] theorem sn_2_34 : ¬ (("0" : Str) = "refused") := by decide +kernel
@[simp] theorem sb_2_34 : (("0" : Str) == "refused") = false := by decide +kernel
@[simp] theorem sn_2_35 : ¬ (("0" : Str) = "root") := by decide +kernel
@[simp] theorem sb_2_35 : (("0" : Str) == "root") = false := by decide +kernel
@[simp] theorem sn_2_36 : ¬ (("0" : Str) = "told") := by decide +kernel
@[simp] theorem sb_2_36 : (("0" : Str) == "told") = false := by decide +kernel
@[simp] theorem sn_2_37 : ¬ (("0" : Str) = "truth") := by decide +kernel
@[simp] theorem sb_2_37 : (("0" : Str) == "truth") = false := by decide +kernel
@[simp] theorem sn_2_38 : ¬ (("0" : Str) = "try") := by decide +kernel
@[simp] theorem sb_2_38 : (("0" : Str) == "try") = false := by decide +kernel
@[simp] theorem sn_3_0 : ¬ (("0123456789" : Str) = "") := by decide +kernel
@[simp] theorem sb_3_0 : (("0123456789" : Str) == "") = false := by decide +kernel
@[simp] theorem sn_3_1 : ¬ (("0123456789" : Str) = "+-*/<=") := by decide +kernel
@[simp] theorem sb_3_1 : (("0123456789" : Str) == "+-*/<=") = false := by decide +kernel
@[simp] theorem sn_3_2 : ¬ (("0123456789" : Str) = "0") := by decide +kernel
@[simp] theorem sb_3_2 : (("0123456789" : Str) == "0") = false := by decide +kernel
@[simp] theorem sn_3_4 : ¬ (("0123456789" : Str) = "1") := by decide +kernel
@[simp] theorem sb_3_4 : (("0123456789" : Str) == "1") = false := by decide +kernel
@[simp] theorem sn_3_5 : ¬ (("0123456789" : Str) = "10") := by decide +kernel
@[simp] theorem sb_3_5 : (("0123456789" : Str) == "10") = false := by decide +kernel
@[simp] theorem sn_3_6 : ¬ (("0123456789" : Str) = "100") := by decide +kernel
@[simp] theorem sb_3_6 : (("0123456789" : Str) == "100") = false := by decide +kernel
@[simp] theorem sn_3_7 : ¬ (("0123456789" : Str) = "11") := by decide +kernel
@[simp] theorem sb_3_7 : (("0123456789" : Str) == "11") = false := by decide +kernel
@[simp] theorem sn_3_8 : ¬ (("0123456789" : Str) = "12") := by decide +kernel
@[simp] theorem sb_3_8 : (("0123456789" : Str) == "12") = false := by decide +kernel
@[simp] theorem sn_3_9 : ¬ (("0123456789" : Str) = "2") := by decide +kernel
@[simp] theorem sb_3_9 : (("0123456789" : Str) == "2") = false := by decide +kernel
@[simp] theorem sn_3_10 : ¬ (("0123456789" : Str) = "20") := by decide +kernel
@[simp] theorem sb_3_10 : (("0123456789" : Str) == "20") = false := by decide +kernel
@[simp] theorem sn_3_11 : ¬ (("0123456789" : Str) = "21") := by decide +kernel
@[simp] theorem sb_3_11 : (("0123456789" : Str) == "21") = false := by decide +kernel
@[simp] theorem sn_3_12 : ¬ (("0123456789" : Str) = "3") := by decide +kernel
@[simp] theorem sb_3_12 : (("0123456789" : Str) == "3") = false := by decide +kernel
@[simp] theorem sn_3_13 : ¬ (("0123456789" : Str) = "9") := by decide +kernel
@[simp] theorem sb_3_13 : (("0123456789" : Str) == "9") = false := by decide +kernel
@[simp] theorem sn_3_14 : ¬ (("0123456789" : Str) = "999") := by decide +kernel
@[simp] theorem sb_3_14 : (("0123456789" : Str) == "999") = false := by decide +kernel
@[simp] theorem sn_3_15 : ¬ (("0123456789" : Str) = "abcdefghijklmnopqrstuvwxyz") := by decide +kernel
@[simp] theorem sb_3_15 : (("0123456789" : Str) == "abcdefghijklmnopqrstuvwxyz") = false := by decide +kernel
@[simp] theorem sn_3_16 : ¬ (("0123456789" : Str) = "call") := by decide +kernel
@[simp] theorem sb_3_16 : (("0123456789" : Str) == "call") = false := by decide +kernel
@[simp] theorem sn_3_17 : ¬ (("0123456789" : Str) = "do") := by decide +kernel
@[simp] theorem sb_3_17 : (("0123456789" : Str) == "do") = false := by decide +kernel
@[simp] theorem sn_3_18 : ¬ (("0123456789" : Str) = "dry") := by decide +kernel
@[simp] theorem sb_3_18 : (("0123456789" : Str) == "dry") = false := by decide +kernel
@[simp] theorem sn_3_19 : ¬ (("0123456789" : Str) = "far") := by decide +kernel
@[simp] theorem sb_3_19 : (("0123456789" : Str) == "far") = false := by decide +kernel
@[simp] theorem sn_3_20 : ¬ (("0123456789" : Str) = "if") := by decide +kernel
@[simp] theorem sb_3_20 : (("0123456789" : Str) == "if") = false := by decide +kernel
@[simp] theorem sn_3_21 : ¬ (("0123456789" : Str) = "kind") := by decide +kernel
@[simp] theorem sb_3_21 : (("0123456789" : Str) == "kind") = false := by decide +kernel
@[simp] theorem sn_3_22 : ¬ (("0123456789" : Str) = "lack") := by decide +kernel
@[simp] theorem sb_3_22 : (("0123456789" : Str) == "lack") = false := by decide +kernel
@[simp] theorem sn_3_23 : ¬ (("0123456789" : Str) = "let") := by decide +kernel
@[simp] theorem sb_3_23 : (("0123456789" : Str) == "let") = false := by decide +kernel
@[simp] theorem sn_3_24 : ¬ (("0123456789" : Str) = "loop") := by decide +kernel
@[simp] theorem sb_3_24 : (("0123456789" : Str) == "loop") = false := by decide +kernel
@[simp] theorem sn_3_25 : ¬ (("0123456789" : Str) = "many") := by decide +kernel
@[simp] theorem sb_3_25 : (("0123456789" : Str) == "many") = false := by decide +kernel
@[simp] theorem sn_3_26 : ¬ (("0123456789" : Str) = "mark") := by decide +kernel
@[simp] theorem sb_3_26 : (("0123456789" : Str) == "mark") = false := by decide +kernel
@[simp] theorem sn_3_27 : ¬ (("0123456789" : Str) = "melt") := by decide +kernel
@[simp] theorem sb_3_27 : (("0123456789" : Str) == "melt") = false := by decide +kernel
@[simp] theorem sn_3_28 : ¬ (("0123456789" : Str) = "name") := by decide +kernel
@[simp] theorem sb_3_28 : (("0123456789" : Str) == "name") = false := by decide +kernel
@[simp] theorem sn_3_29 : ¬ (("0123456789" : Str) = "nought") := by decide +kernel
@[simp] theorem sb_3_29 : (("0123456789" : Str) == "nought") = false := by decide +kernel
@[simp] theorem sn_3_30 : ¬ (("0123456789" : Str) = "number") := by decide +kernel
@[simp] theorem sb_3_30 : (("0123456789" : Str) == "number") = false := by decide +kernel
@[simp] theorem sn_3_31 : ¬ (("0123456789" : Str) = "parts") := by decide +kernel
@[simp] theorem sb_3_31 : (("0123456789" : Str) == "parts") = false := by decide +kernel
@[simp] theorem sn_3_32 : ¬ (("0123456789" : Str) = "pick") := by decide +kernel
@[simp] theorem sb_3_32 : (("0123456789" : Str) == "pick") = false := by decide +kernel
@[simp] theorem sn_3_33 : ¬ (("0123456789" : Str) = "raise") := by decide +kernel
@[simp] theorem sb_3_33 : (("0123456789" : Str) == "raise") = false := by decide +kernel
@[simp] theorem sn_3_34 : ¬ (("0123456789" : Str) = "refused") := by decide +kernel
@[simp] theorem sb_3_34 : (("0123456789" : Str) == "refused") = false := by decide +kernel
@[simp] theorem sn_3_35 : ¬ (("0123456789" : Str) = "root") := by decide +kernel
@[simp] theorem sb_3_35 : (("0123456789" : Str) == "root") = false := by decide +kernel
@[simp] theorem sn_3_36 : ¬ (("0123456789" : Str) = "told") := by decide +kernel
@[simp] theorem sb_3_36 : (("0123456789" : Str) == "told") = false := by decide +kernel
@[simp] theorem sn_3_37 : ¬ (("0123456789" : Str) = "truth") := by decide +kernel
@[simp] theorem sb_3_37 : (("0123456789" : Str) == "truth") = false := by decide +kernel
@[simp] theorem sn_3_38 : ¬ (("0123456789" : Str) = "try") := by decide +kernel
@[simp] theorem sb_3_38 : (("0123456789" : Str) == "try") = false := by decide +kernel
@[simp] theorem sn_4_0 : ¬ (("1" : Str) = "") := by decide +kernel
@[simp] theorem sb_4_0 : (("1" : Str) == "") = false := by decide +kernel
@[simp] theorem sn_4_1 : ¬ (("1" : Str) = "+-*/<=") := by decide +kernel
@[simp] theorem sb_4_1 : (("1" : Str) == "+-*/<=") = false := by decide +kernel
@[simp] theorem sn_4_2 : ¬ (("1" : Str) = "0") := by decide +kernel
@[simp] theorem sb_4_2 : (("1" : Str) == "0") = false := by decide +kernel
@[simp] theorem sn_4_3 : ¬ (("1" : Str) = "0123456789") := by decide +kernel
@[simp] theorem sb_4_3 : (("1" : Str) == "0123456789") = false := by decide +kernel
@[simp] theorem sn_4_5 : ¬ (("1" : Str) = "10") := by decide +kernel
@[simp] theorem sb_4_5 : (("1" : Str) == "10") = false := by decide +kernel
@[simp] theorem sn_4_6 : ¬ (("1" : Str) = "100") := by decide +kernel
@[simp] theorem sb_4_6 : (("1" : Str) == "100") = false := by decide +kernel
@[simp] theorem sn_4_7 : ¬ (("1" : Str) = "11") := by decide +kernel
@[simp] theorem sb_4_7 : (("1" : Str) == "11") = false := by decide +kernel
@[simp] theorem sn_4_8 : ¬ (("1" : Str) = "12") := by decide +kernel
@[simp] theorem sb_4_8 : (("1" : Str) == "12") = false := by decide +kernel
@[simp] theorem sn_4_9 : ¬ (("1" : Str) = "2") := by decide +kernel
@[simp] theorem sb_4_9 : (("1" : Str) == "2") = false := by decide +kernel
@[simp] theorem sn_4_10 : ¬ (("1" : Str) = "20") := by decide +kernel
@[simp] theorem sb_4_10 : (("1" : Str) == "20") = false := by decide +kernel
@[simp] theorem sn_4_11 : ¬ (("1" : Str) = "21") := by decide +kernel
@[simp] theorem sb_4_11 : (("1" : Str) == "21") = false := by decide +kernel
@[simp] theorem sn_4_12 : ¬ (("1" : Str) = "3") := by decide +kernel
@[simp] theorem sb_4_12 : (("1" : Str) == "3") = false := by decide +kernel
@[simp] theorem sn_4_13 : ¬ (("1" : Str) = "9") := by decide +kernel
@[simp] theorem sb_4_13 : (("1" : Str) == "9") = false := by decide +kernel
@[simp] theorem sn_4_14 : ¬ (("1" : Str) = "999") := by decide +kernel
@[simp] theorem sb_4_14 : (("1" : Str) == "999") = false := by decide +kernel
@[simp] theorem sn_4_15 : ¬ (("1" : Str) = "abcdefghijklmnopqrstuvwxyz") := by decide +kernel
@[simp] theorem sb_4_15 : (("1" : Str) == "abcdefghijklmnopqrstuvwxyz") = false := by decide +kernel
@[simp] theorem sn_4_16 : ¬ (("1" : Str) = "call") := by decide +kernel
@[simp] theorem sb_4_16 : (("1" : Str) == "call") = false := by decide +kernel
@[simp] theorem sn_4_17 : ¬ (("1" : Str) = "do") := by decide +kernel
@[simp] theorem sb_4_17 : (("1" : Str) == "do") = false := by decide +kernel
@[simp] theorem sn_4_18 : ¬ (("1" : Str) = "dry") := by decide +kernel
@[simp] theorem sb_4_18 : (("1" : Str) == "dry") = false := by decide +kernel
@[simp] theorem sn_4_19 : ¬ (("1" : Str) = "far") := by decide +kernel
@[simp] theorem sb_4_19 : (("1" : Str) == "far") = false := by decide +kernel
@[simp] theorem sn_4_20 : ¬ (("1" : Str) = "if") := by decide +kernel
@[simp] theorem sb_4_20 : (("1" : Str) == "if") = false := by decide +kernel
@[simp] theorem sn_4_21 : ¬ (("1" : Str) = "kind") := by decide +kernel
@[simp] theorem sb_4_21 : (("1" : Str) == "kind") = false := by decide +kernel
@[simp] theorem sn_4_22 : ¬ (("1" : Str) = "lack") := by decide +kernel
@[simp] theorem sb_4_22 : (("1" : Str) == "lack") = false := by decide +kernel
@[simp] theorem sn_4_23 : ¬ (("1" : Str) = "let") := by decide +kernel
@[simp] theorem sb_4_23 : (("1" : Str) == "let") = false := by decide +kernel
@[simp] theorem sn_4_24 : ¬ (("1" : Str) = "loop") := by decide +kernel
@[simp] theorem sb_4_24 : (("1" : Str) == "loop") = false := by decide +kernel
@[simp] theorem sn_4_25 : ¬ (("1" : Str) = "many") := by decide +kernel
@[simp] theorem sb_4_25 : (("1" : Str) == "many") = false := by decide +kernel
@[simp] theorem sn_4_26 : ¬ (("1" : Str) = "mark") := by decide +kernel
@[simp] theorem sb_4_26 : (("1" : Str) == "mark") = false := by decide +kernel
@[simp] theorem sn_4_27 : ¬ (("1" : Str) = "melt") := by decide +kernel
@[simp] theorem sb_4_27 : (("1" : Str) == "melt") = false := by decide +kernel
@[simp] theorem sn_4_28 : ¬ (("1" : Str) = "name") := by decide +kernel
@[simp] theorem sb_4_28 : (("1" : Str) == "name") = false := by decide +kernel
@[simp] theorem sn_4_29 : ¬ (("1" : Str) = "nought") := by decide +kernel
@[simp] theorem sb_4_29 : (("1" : Str) == "nought") = false := by decide +kernel
@[simp] theorem sn_4_30 : ¬ (("1" : Str) = "number") := by decide +kernel
@[simp] theorem sb_4_30 : (("1" : Str) == "number") = false := by decide +kernel
@[simp] theorem sn_4_31 : ¬ (("1" : Str) = "parts") := by decide +kernel
@[simp] theorem sb_4_31 : (("1" : Str) == "parts") = false := by decide +kernel
@[simp] theorem sn_4_32 : ¬ (("1" : Str) = "pick") := by decide +kernel
@[simp] theorem sb_4_32 : (("1" : Str) == "pick") = false := by decide +kernel
@[simp] theorem sn_4_33 : ¬ (("1" : Str) = "raise") := by decide +kernel
@[simp] theorem sb_4_33 : (("1" : Str) == "raise") = false := by decide +kernel
@[simp] theorem sn_4_34 : ¬ (("1" : Str) = "refused") := by decide +kernel
@[simp] theorem sb_4_34 : (("1" : Str) == "refused") = false := by decide +kernel
@[simp] theorem sn_4_35 : ¬ (("1" : Str) = "root") := by decide +kernel
@[simp] theorem sb_4_35 : (("1" : Str) == "root") = false := by decide +kernel
@[simp] theorem sn_4_36 : ¬ (("1" : Str) = "told") := by decide +kernel
@[simp] theorem sb_4_36 : (("1" : Str) == "told") = false := by decide +kernel
@[simp] theorem sn_4_37 : ¬ (("1" : Str) = "truth") := by decide +kernel
@[simp] theorem sb_4_37 : (("1" : Str) == "truth") = false := by decide +kernel
@[simp] theorem sn_4_38 : ¬ (("1" : Str) = "try") := by decide +kernel
@[simp] theorem sb_4_38 : (("1" : Str) == "try") = false := by decide +kernel
@[simp] theorem sn_5_0 : ¬ (("10" : Str) = "") := by decide +kernel
@[simp] theorem sb_5_0 : (("10" : Str) == "") = false := by decide +kernel
@[simp] theorem sn_5_1 : ¬ (("10" : Str) = "+-*/<=") := by decide +kernel
@[simp] theorem sb_5_1 : (("10" : Str) == "+-*/<=") = false := by decide +kernel
@[simp] theorem sn_5_2 : ¬ (("10" : Str) = "0") := by decide +kernel
@[simp] theorem sb_5_2 : (("10" : Str) == "0") = false := by decide +kernel
@[simp] theorem sn_5_3 : ¬ (("10" : Str) = "0123456789") := by decide +kernel
@[simp] theorem sb_5_3 : (("10" : Str) == "0123456789") = false := by decide +kernel
@[simp] theorem sn_5_4 : ¬ (("10" : Str) = "1") := by decide +kernel
@[simp] theorem sb_5_4 : (("10" : Str) == "1") = false := by decide +kernel
@[simp] theorem sn_5_6 : ¬ (("10" : Str) = "100") := by decide +kernel
@[simp] theorem sb_5_6 : (("10" : Str) == "100") = false := by decide +kernel
@[simp] theorem sn_5_7 : ¬ (("10" : Str) = "11") := by decide +kernel
@[simp] theorem sb_5_7 : (("10" : Str) == "11") = false := by decide +kernel
@[simp] theorem sn_5_8 : ¬ (("10" : Str) = "12") := by decide +kernel
@[simp] theorem sb_5_8 : (("10" : Str) == "12") = false := by decide +kernel
@[simp] theorem sn_5_9 : ¬ (("10" : Str) = "2") := by decide +kernel
@[simp] theorem sb_5_9 : (("10" : Str) == "2") = false := by decide +kernel
@[simp] theorem sn_5_10 : ¬ (("10" : Str) = "20") := by decide +kernel
@[simp] theorem sb_5_10 : (("10" : Str) == "20") = false := by decide +kernel
@[simp] theorem sn_5_11 : ¬ (("10" : Str) = "21") := by decide +kernel
@[simp] theorem sb_5_11 : (("10" : Str) == "21") = false := by decide +kernel
@[simp] theorem sn_5_12 : ¬ (("10" : Str) = "3") := by decide +kernel
@[simp] theorem sb_5_12 : (("10" : Str) == "3") = false := by decide +kernel
@[simp] theorem sn_5_13 : ¬ (("10" : Str) = "9") := by decide +kernel
@[simp] theorem sb_5_13 : (("10" : Str) == "9") = false := by decide +kernel
@[simp] theorem sn_5_14 : ¬ (("10" : Str) = "999") := by decide +kernel
@[simp] theorem sb_5_14 : (("10" : Str) == "999") = false := by decide +kernel
@[simp] theorem sn_5_15 : ¬ (("10" : Str) = "abcdefghijklmnopqrstuvwxyz") := by decide +kernel
@[simp] theorem sb_5_15 : (("10" : Str) == "abcdefghijklmnopqrstuvwxyz") = false := by decide +kernel
@[simp] theorem sn_5_16 : ¬ (("10" : Str) = "call") := by decide +kernel
@[simp] theorem sb_5_16 : (("10" : Str) == "call") = false := by decide +kernel
@[simp] theorem sn_5_17 : ¬ (("10" : Str) = "do") := by decide +kernel
@[simp] theorem sb_5_17 : (("10" : Str) == "do") = false := by decide +kernel
@[simp] theorem sn_5_18 : ¬ (("10" : Str) = "dry") := by decide +kernel
@[simp] theorem sb_5_18 : (("10" : Str) == "dry") = false := by decide +kernel
@[simp] theorem sn_5_19 : ¬ (("10" : Str) = "far") := by decide +kernel
@[simp] theorem sb_5_19 : (("10" : Str) == "far") = false := by decide +kernel
@[simp] theorem sn_5_20 : ¬ (("10" : Str) = "if") := by decide +kernel
@[simp] theorem sb_5_20 : (("10" : Str) == "if") = false := by decide +kernel
@[simp] theorem sn_5_21 : ¬ (("10" : Str) = "kind") := by decide +kernel
@[simp] theorem sb_5_21 : (("10" : Str) == "kind") = false := by decide +kernel
@[simp] theorem sn_5_22 : ¬ (("10" : Str) = "lack") := by decide +kernel
@[simp] theorem sb_5_22 : (("10" : Str) == "lack") = false := by decide +kernel
@[simp] theorem sn_5_23 : ¬ (("10" : Str) = "let") := by decide +kernel
@[simp] theorem sb_5_23 : (("10" : Str) == "let") = false := by decide +kernel
@[simp] theorem sn_5_24 : ¬ (("10" : Str) = "loop") := by decide +kernel
@[simp] theorem sb_5_24 : (("10" : Str) == "loop") = false := by decide +kernel
@[simp] theorem sn_5_25 : ¬ (("10" : Str) = "many") := by decide +kernel
@[simp] theorem sb_5_25 : (("10" : Str) == "many") = false := by decide +kernel
@[simp] theorem sn_5_26 : ¬ (("10" : Str) = "mark") := by decide +kernel
@[simp] theorem sb_5_26 : (("10" : Str) == "mark") = false := by decide +kernel
@[simp] theorem sn_5_27 : ¬ (("10" : Str) = "melt") := by decide +kernel
@[simp] theorem sb_5_27 : (("10" : Str) == "melt") = false := by decide +kernel
@[simp] theorem sn_5_28 : ¬ (("10" : Str) = "name") := by decide +kernel
@[simp] theorem sb_5_28 : (("10" : Str) == "name") = false := by decide +kernel
@[simp] theorem sn_5_29 : ¬ (("10" : Str) = "nought") := by decide +kernel
@[simp] theorem sb_5_29 : (("10" : Str) == "nought") = false := by decide +kernel
@[simp] theorem sn_5_30 : ¬ (("10" : Str) = "number") := by decide +kernel
@[simp] theorem sb_5_30 : (("10" : Str) == "number") = false := by decide +kernel
@[simp] theorem sn_5_31 : ¬ (("10" : Str) = "parts") := by decide +kernel
@[simp] theorem sb_5_31 : (("10" : Str) == "parts") = false := by decide +kernel
@[simp] theorem sn_5_32 : ¬ (("10" : Str) = "pick") := by decide +kernel
@[simp] theorem sb_5_32 : (("10" : Str) == "pick") = false := by decide +kernel
@[simp] theorem sn_5_33 : ¬ (("10" : Str) = "raise") := by decide +kernel
@[simp] theorem sb_5_33 : (("10" : Str) == "raise") = false := by decide +kernel
@[simp] theorem sn_5_34 : ¬ (("10" : Str) = "refused") := by decide +kernel
@[simp] theorem sb_5_34 : (("10" : Str) == "refused") = false := by decide +kernel
@[simp] theorem sn_5_35 : ¬ (("10" : Str) = "root") := by decide +kernel
@[simp] theorem sb_5_35 : (("10" : Str) == "root") = false := by decide +kernel
@[simp] theorem sn_5_36 : ¬ (("10" : Str) = "told") := by decide +kernel
@[simp] theorem sb_5_36 : (("10" : Str) == "told") = false := by decide +kernel
@[simp] theorem sn_5_37 : ¬ (("10" : Str) = "truth") := by decide +kernel
@[simp] theorem sb_5_37 : (("10" : Str) == "truth") = false := by decide +kernel
@[simp] theorem sn_5_38 : ¬ (("10" : Str) = "try") := by decide +kernel
@[simp] theorem sb_5_38 : (("10" : Str) == "try") = false := by decide +kernel
@[simp] theorem sn_6_0 : ¬ (("100" : Str) = "") := by decide +kernel
@[simp] theorem sb_6_0 : (("100" : Str) == "") = false := by decide +kernel
@[simp] theorem sn_6_1 : ¬ (("100" : Str) = "+-*/<=") := by decide +kernel
@[simp] theorem sb_6_1 : (("100" : Str) == "+-*/<=") = false := by decide +kernel
@[simp] theorem sn_6_2 : ¬ (("100" : Str) = "0") := by decide +kernel
@[simp] theorem sb_6_2 : (("100" : Str) == "0") = false := by decide +kernel
@[simp] theorem sn_6_3 : ¬ (("100" : Str) = "0123456789") := by decide +kernel
@[simp] theorem sb_6_3 : (("100" : Str) == "0123456789") = false := by decide +kernel
@[simp] theorem sn_6_4 : ¬ (("100" : Str) = "1") := by decide +kernel
@[simp] theorem sb_6_4 : (("100" : Str) == "1") = false := by decide +kernel
@[simp] theorem sn_6_5 : ¬ (("100" : Str) = "10") := by decide +kernel
@[simp] theorem sb_6_5 : (("100" : Str) == "10") = false := by decide +kernel
@[simp] theorem sn_6_7 : ¬ (("100" : Str) = "11") := by decide +kernel
@[simp] theorem sb_6_7 : (("100" : Str) == "11") = false := by decide +kernel
@[simp] theorem sn_6_8 : ¬ (("100" : Str) = "12") := by decide +kernel
@[simp] theorem sb_6_8 : (("100" : Str) == "12") = false := by decide +kernel
@[simp] theorem sn_6_9 : ¬ (("100" : Str) = "2") := by decide +kernel
@[simp] theorem sb_6_9 : (("100" : Str) == "2") = false := by decide +kernel
@[simp] theorem sn_6_10 : ¬ (("100" : Str) = "20") := by decide +kernel
@[simp] theorem sb_6_10 : (("100" : Str) == "20") = false := by decide +kernel
@[simp] theorem sn_6_11 : ¬ (("100" : Str) = "21") := by decide +kernel
@[simp] theorem sb_6_11 : (("100" : Str) == "21") = false := by decide +kernel
@[simp] theorem sn_6_12 : ¬ (("100" : Str) = "3") := by decide +kernel
@[simp] theorem sb_6_12 : (("100" : Str) == "3") = false := by decide +kernel
@[simp] theorem sn_6_13 : ¬ (("100" : Str) = "9") := by decide +kernel
@[simp] theorem sb_6_13 : (("100" : Str) == "9") = false := by decide +kernel
@[simp] theorem sn_6_14 : ¬ (("100" : Str) = "999") := by decide +kernel
@[simp] theorem sb_6_14 : (("100" : Str) == "999") = false := by decide +kernel
@[simp] theorem sn_6_15 : ¬ (("100" : Str) = "abcdefghijklmnopqrstuvwxyz") := by decide +kernel
@[simp] theorem sb_6_15 : (("100" : Str) == "abcdefghijklmnopqrstuvwxyz") = false := by decide +kernel
@[simp] theorem sn_6_16 : ¬ (("100" : Str) = "call") := by decide +kernel
@[simp] theorem sb_6_16 : (("100" : Str) == "call") = false := by decide +kernel
@[simp] theorem sn_6_17 : ¬ (("100" : Str) = "do") := by decide +kernel
@[simp] theorem sb_6_17 : (("100" : Str) == "do") = false := by decide +kernel
@[simp] theorem sn_6_18 : ¬ (("100" : Str) = "dry") := by decide +kernel
@[simp] theorem sb_6_18 : (("100" : Str) == "dry") = false := by decide +kernel
@[simp] theorem sn_6_19 : ¬ (("100" : Str) = "far") := by decide +kernel
@[simp] theorem sb_6_19 : (("100" : Str) == "far") = false := by decide +kernel
@[simp] theorem sn_6_20 : ¬ (("100" : Str) = "if") := by decide +kernel
@[simp] theorem sb_6_20 : (("100" : Str) == "if") = false := by decide +kernel
@[simp] theorem sn_6_21 : ¬ (("100" : Str) = "kind") := by decide +kernel
@[simp] theorem sb_6_21 : (("100" : Str) == "kind") = false := by decide +kernel
@[simp] theorem sn_6_22 : ¬ (("100" : Str) = "lack") := by decide +kernel
@[simp] theorem sb_6_22 : (("100" : Str) == "lack") = false := by decide +kernel
@[simp] theorem sn_6_23 : ¬ (("100" : Str) = "let") := by decide +kernel
@[simp] theorem sb_6_23 : (("100" : Str) == "let") = false := by decide +kernel
@[simp] theorem sn_6_24 : ¬ (("100" : Str) = "loop") := by decide +kernel
@[simp] theorem sb_6_24 : (("100" : Str) == "loop") = false := by decide +kernel
@[simp] theorem sn_6_25 : ¬ (("100" : Str) = "many") := by decide +kernel
@[simp] theorem sb_6_25 : (("100" : Str) == "many") = false := by decide +kernel
@[simp] theorem sn_6_26 : ¬ (("100" : Str) = "mark") := by decide +kernel
@[simp] theorem sb_6_26 : (("100" : Str) == "mark") = false := by decide +kernel
@[simp] theorem sn_6_27 : ¬ (("100" : Str) = "melt") := by decide +kernel
@[simp] theorem sb_6_27 : (("100" : Str) == "melt") = false := by decide +kernel
@[simp] theorem sn_6_28 : ¬ (("100" : Str) = "name") := by decide +kernel
@[simp] theorem sb_6_28 : (("100" : Str) == "name") = false := by decide +kernel
@[simp] theorem sn_6_29 : ¬ (("100" : Str) = "nought") := by decide +kernel
@[simp] theorem sb_6_29 : (("100" : Str) == "nought") = false := by decide +kernel
@[simp] theorem sn_6_30 : ¬ (("100" : Str) = "number") := by decide +kernel
@[simp] theorem sb_6_30 : (("100" : Str) == "number") = false := by decide +kernel
@[simp] theorem sn_6_31 : ¬ (("100" : Str) = "parts") := by decide +kernel
@[simp] theorem sb_6_31 : (("100" : Str) == "parts") = false := by decide +kernel
@[simp] theorem sn_6_32 : ¬ (("100" : Str) = "pick") := by decide +kernel
@[simp] theorem sb_6_32 : (("100" : Str) == "pick") = false := by decide +kernel
@[simp] theorem sn_6_33 : ¬ (("100" : Str) = "raise") := by decide +kernel
@[simp] theorem sb_6_33 : (("100" : Str) == "raise") = false := by decide +kernel
@[simp] theorem sn_6_34 : ¬ (("100" : Str) = "refused") := by decide +kernel
@[simp] theorem sb_6_34 : (("100" : Str) == "refused") = false := by decide +kernel
@[simp] theorem sn_6_35 : ¬ (("100" : Str) = "root") := by decide +kernel
@[simp] theorem sb_6_35 : (("100" : Str) == "root") = false := by decide +kernel
@[simp] theorem sn_6_36 : ¬ (("100" : Str) = "told") := by decide +kernel
@[simp] theorem sb_6_36 : (("100" : Str) == "told") = false := by decide +kernel
@[simp] theorem sn_6_37 : ¬ (("100" : Str) = "truth") := by decide +kernel
@[simp] theorem sb_6_37 : (("100" : Str) == "truth") = false := by decide +kernel
@[simp] theorem sn_6_38 : ¬ (("100" : Str) = "try") := by decide +kernel
@[simp] theorem sb_6_38 : (("100" : Str) == "try") = false := by decide +kernel
@[simp] theorem sn_7_0 : ¬ (("11" : Str) = "") := by decide +kernel
@[simp] theorem sb_7_0 : (("11" : Str) == "") = false := by decide +kernel
@[simp] theorem sn_7_1 : ¬ (("11" : Str) = "+-*/<=") := by decide +kernel
@[simp] theorem sb_7_1 : (("11" : Str) == "+-*/<=") = false := by decide +kernel
@[simp] theorem sn_7_2 : ¬ (("11" : Str) = "0") := by decide +kernel
@[simp] theorem sb_7_2 : (("11" : Str) == "0") = false := by decide +kernel
@[simp] theorem sn_7_3 : ¬ (("11" : Str) = "0123456789") := by decide +kernel
@[simp] theorem sb_7_3 : (("11" : Str) == "0123456789") = false := by decide +kernel
@[simp] theorem sn_7_4 : ¬ (("11" : Str) = "1") := by decide +kernel
@[simp] theorem sb_7_4 : (("11" : Str) == "1") = false := by decide +kernel
@[simp] theorem sn_7_5 : ¬ (("11" : Str) = "10") := by decide +kernel
@[simp] theorem sb_7_5 : (("11" : Str) == "10") = false := by decide +kernel
@[simp] theorem sn_7_6 : ¬ (("11" : Str) = "100") := by decide +kernel
@[simp] theorem sb_7_6 : (("11" : Str) == "100") = false := by decide +kernel
@[simp] theorem sn_7_8 : ¬ (("11" : Str) = "12") := by decide +kernel
@[simp] theorem sb_7_8 : (("11" : Str) == "12") = false := by decide +kernel
@[simp] theorem sn_7_9 : ¬ (("11" : Str) = "2") := by decide +kernel
@[simp] theorem sb_7_9 : (("11" : Str) == "2") = false := by decide +kernel
@[simp] theorem sn_7_10 : ¬ (("11" : Str) = "20") := by decide +kernel
@[simp] theorem sb_7_10 : (("11" : Str) == "20") = false := by decide +kernel
@[simp] theorem sn_7_11 : ¬ (("11" : Str) = "21") := by decide +kernel
@[simp] theorem sb_7_11 : (("11" : Str) == "21") = false := by decide +kernel
@[simp] theorem sn_7_12 : ¬ (("11" : Str) = "3") := by decide +kernel
@[simp] theorem sb_7_12 : (("11" : Str) == "3") = false := by decide +kernel
@[simp] theorem sn_7_13 : ¬ (("11" : Str) = "9") := by decide +kernel
@[simp] theorem sb_7_13 : (("11" : Str) == "9") = false := by decide +kernel
@[simp] theorem sn_7_14 : ¬ (("11" : Str) = "999") := by decide +kernel
@[simp] theorem sb_7_14 : (("11" : Str) == "999") = false := by decide +kernel
@[simp] theorem sn_7_15 : ¬ (("11" : Str) = "abcdefghijklmnopqrstuvwxyz") := by decide +kernel
@[simp] theorem sb_7_15 : (("11" : Str) == "abcdefghijklmnopqrstuvwxyz") = false := by decide +kernel
@[simp] theorem sn_7_16 : ¬ (("11" : Str) = "call") := by decide +kernel
@[simp] theorem sb_7_16 : (("11" : Str) == "call") = false := by decide +kernel
@[simp] theorem sn_7_17 : ¬ (("11" : Str) = "do") := by decide +kernel
@[simp] theorem sb_7_17 : (("11" : Str) == "do") = false := by decide +kernel
@[simp] theorem sn_7_18 : ¬ (("11" : Str) = "dry") := by decide +kernel
@[simp] theorem sb_7_18 : (("11" : Str) == "dry") = false := by decide +kernel
@[simp] theorem sn_7_19 : ¬ (("11" : Str) = "far") := by decide +kernel
@[simp] theorem sb_7_19 : (("11" : Str) == "far") = false := by decide +kernel
@[simp] theorem sn_7_20 : ¬ (("11" : Str) = "if") := by decide +kernel
@[simp] theorem sb_7_20 : (("11" : Str) == "if") = false := by decide +kernel
@[simp] theorem sn_7_21 : ¬ (("11" : Str) = "kind") := by decide +kernel
@[simp] theorem sb_7_21 : (("11" : Str) == "kind") = false := by decide +kernel
@[simp] theorem sn_7_22 : ¬ (("11" : Str) = "lack") := by decide +kernel
@[simp] theorem sb_7_22 : (("11" : Str) == "lack") = false := by decide +kernel
@[simp] theorem sn_7_23 : ¬ (("11" : Str) = "let") := by decide +kernel
@[simp] theorem sb_7_23 : (("11" : Str) == "let") = false := by decide +kernel
@[simp] theorem sn_7_24 : ¬ (("11" : Str) = "loop") := by decide +kernel
@[simp] theorem sb_7_24 : (("11" : Str) == "loop") = false := by decide +kernel
@[simp] theorem sn_7_25 : ¬ (("11" : Str) = "many") := by decide +kernel
@[simp] theorem sb_7_25 : (("11" : Str) == "many") = false := by decide +kernel
@[simp] theorem sn_7_26 : ¬ (("11" : Str) = "mark") := by decide +kernel
@[simp] theorem sb_7_26 : (("11" : Str) == "mark") = false := by decide +kernel
@[simp] theorem sn_7_27 : ¬ (("11" : Str) = "melt") := by decide +kernel
@[simp] theorem sb_7_27 : (("11" : Str) == "melt") = false := by decide +kernel
@[simp] theorem sn_7_28 : ¬ (("11" : Str) = "name") := by decide +kernel
@[simp] theorem sb_7_28 : (("11" : Str) == "name") = false := by decide +kernel
@[simp] theorem sn_7_29 : ¬ (("11" : Str) = "nought") := by decide +kernel
@[simp] theorem sb_7_29 : (("11" : Str) == "nought") = false := by decide +kernel
@[simp] theorem sn_7_30 : ¬ (("11" : Str) = "number") := by decide +kernel
@[simp] theorem sb_7_30 : (("11" : Str) == "number") = false := by decide +kernel
@[simp] theorem sn_7_31 : ¬ (("11" : Str) = "parts") := by decide +kernel
@[simp] theorem sb_7_31 : (("11" : Str) == "parts") = false := by decide +kernel
@[simp] theorem sn_7_32 : ¬ (("11" : Str) = "pick") := by decide +kernel
@[simp] theorem sb_7_32 : (("11" : Str) == "pick") = false := by decide +kernel
@[simp] theorem sn_7_33 : ¬ (("11" : Str) = "raise") := by decide +kernel
@[simp] theorem sb_7_33 : (("11" : Str) == "raise") = false := by decide +kernel
@[simp] theorem sn_7_34 : ¬ (("11" : Str) = "refused") := by decide +kernel
@[simp] theorem sb_7_34 : (("11" : Str) == "refused") = false := by decide +kernel
@[simp] theorem sn_7_35 : ¬ (("11" : Str) = "root") := by decide +kernel
@[simp] theorem sb_7_35 : (("11" : Str) == "root") = false := by decide +kernel
@[simp] theorem sn_7_36 : ¬ (("11" : Str) = "told") := by decide +kernel
@[simp] theorem sb_7_36 : (("11" : Str) == "told") = false := by decide +kernel
@[simp] theorem sn_7_37 : ¬ (("11" : Str) = "truth") := by decide +kernel
@[simp] theorem sb_7_37 : (("11" : Str) == "truth") = false := by decide +kernel
@[simp] theorem sn_7_38 : ¬ (("11" : Str) = "try") := by decide +kernel
@[simp] theorem sb_7_38 : (("11" : Str) == "try") = false := by decide +kernel
@[simp] theorem sn_8_0 : ¬ (("12" : Str) = "") := by decide +kernel
@[simp] theorem sb_8_0 : (("12" : Str) == "") = false := by decide +kernel
@[simp] theorem sn_8_1 : ¬ (("12" : Str) = "+-*/<=") := by decide +kernel
@[simp] theorem sb_8_1 : (("12" : Str) == "+-*/<=") = false := by decide +kernel
@[simp] theorem sn_8_2 : ¬ (("12" : Str) = "0") := by decide +kernel
@[simp] theorem sb_8_2 : (("12" : Str) == "0") = false := by decide +kernel
@[simp] theorem sn_8_3 : ¬ (("12" : Str) = "0123456789") := by decide +kernel
@[simp] theorem sb_8_3 : (("12" : Str) == "0123456789") = false := by decide +kernel
@[simp] theorem sn_8_4 : ¬ (("12" : Str) = "1") := by decide +kernel
@[simp] theorem sb_8_4 : (("12" : Str) == "1") = false := by decide +kernel
@[simp] theorem sn_8_5 : ¬ (("12" : Str) = "10") := by decide +kernel
@[simp] theorem sb_8_5 : (("12" : Str) == "10") = false := by decide +kernel
@[simp] theorem sn_8_6 : ¬ (("12" : Str) = "100") := by decide +kernel
@[simp] theorem sb_8_6 : (("12" : Str) == "100") = false := by decide +kernel
@[simp] theorem sn_8_7 : ¬ (("12" : Str) = "11") := by decide +kernel
@[simp] theorem sb_8_7 : (("12" : Str) == "11") = false := by decide +kernel
@[simp] theorem sn_8_9 : ¬ (("12" : Str) = "2") := by decide +kernel
@[simp] theorem sb_8_9 : (("12" : Str) == "2") = false := by decide +kernel
@[simp] theorem sn_8_10 : ¬ (("12" : Str) = "20") := by decide +kernel
@[simp] theorem sb_8_10 : (("12" : Str) == "20") = false := by decide +kernel
@[simp] theorem sn_8_11 : ¬ (("12" : Str) = "21") := by decide +kernel
@[simp] theorem sb_8_11 : (("12" : Str) == "21") = false := by decide +kernel
@[simp] theorem sn_8_12 : ¬ (("12" : Str) = "3") := by decide +kernel
@[simp] theorem sb_8_12 : (("12" : Str) == "3") = false := by decide +kernel
@[simp] theorem sn_8_13 : ¬ (("12" : Str) = "9") := by decide +kernel
@[simp] theorem sb_8_13 : (("12" : Str) == "9") = false := by decide +kernel
@[simp] theorem sn_8_14 : ¬ (("12" : Str) = "999") := by decide +kernel
@[simp] theorem sb_8_14 : (("12" : Str) == "999") = false := by decide +kernel
@[simp] theorem sn_8_15 : ¬ (("12" : Str) = "abcdefghijklmnopqrstuvwxyz") := by decide +kernel
@[simp] theorem sb_8_15 : (("12" : Str) == "abcdefghijklmnopqrstuvwxyz") = false := by decide +kernel
@[simp] theorem sn_8_16 : ¬ (("12" : Str) = "call") := by decide +kernel
@[simp] theorem sb_8_16 : (("12" : Str) == "call") = false := by decide +kernel
@[simp] theorem sn_8_17 : ¬ (("12" : Str) = "do") := by decide +kernel
@[simp] theorem sb_8_17 : (("12" : Str) == "do") = false := by decide +kernel
@[simp] theorem sn_8_18 : ¬ (("12" : Str) = "dry") := by decide +kernel
@[simp] theorem sb_8_18 : (("12" : Str) == "dry") = false := by decide +kernel
@[simp] theorem sn_8_19 : ¬ (("12" : Str) = "far") := by decide +kernel
@[simp] theorem sb_8_19 : (("12" : Str) == "far") = false := by decide +kernel
@[simp] theorem sn_8_20 : ¬ (("12" : Str) = "if") := by decide +kernel
@[simp] theorem sb_8_20 : (("12" : Str) == "if") = false := by decide +kernel
@[simp] theorem sn_8_21 : ¬ (("12" : Str) = "kind") := by decide +kernel
@[simp] theorem sb_8_21 : (("12" : Str) == "kind") = false := by decide +kernel
@[simp] theorem sn_8_22 : ¬ (("12" : Str) = "lack") := by decide +kernel
@[simp] theorem sb_8_22 : (("12" : Str) == "lack") = false := by decide +kernel
@[simp] theorem sn_8_23 : ¬ (("12" : Str) = "let") := by decide +kernel
@[simp] theorem sb_8_23 : (("12" : Str) == "let") = false := by decide +kernel
@[simp] theorem sn_8_24 : ¬ (("12" : Str) = "loop") := by decide +kernel
@[simp] theorem sb_8_24 : (("12" : Str) == "loop") = false := by decide +kernel
@[simp] theorem sn_8_25 : ¬ (("12" : Str) = "many") := by decide +kernel
@[simp] theorem sb_8_25 : (("12" : Str) == "many") = false := by decide +kernel
@[simp] theorem sn_8_26 : ¬ (("12" : Str) = "mark") := by decide +kernel
@[simp] theorem sb_8_26 : (("12" : Str) == "mark") = false := by decide +kernel
@[simp] theorem sn_8_27 : ¬ (("12" : Str) = "melt") := by decide +kernel
@[simp] theorem sb_8_27 : (("12" : Str) == "melt") = false := by decide +kernel
@[simp] theorem sn_8_28 : ¬ (("12" : Str) = "name") := by decide +kernel
@[simp] theorem sb_8_28 : (("12" : Str) == "name") = false := by decide +kernel
@[simp] theorem sn_8_29 : ¬ (("12" : Str) = "nought") := by decide +kernel
@[simp] theorem sb_8_29 : (("12" : Str) == "nought") = false := by decide +kernel
@[simp] theorem sn_8_30 : ¬ (("12" : Str) = "number") := by decide +kernel
@[simp] theorem sb_8_30 : (("12" : Str) == "number") = false := by decide +kernel
@[simp] theorem sn_8_31 : ¬ (("12" : Str) = "parts") := by decide +kernel
@[simp] theorem sb_8_31 : (("12" : Str) == "parts") = false := by decide +kernel
@[simp] theorem sn_8_32 : ¬ (("12" : Str) = "pick") := by decide +kernel
@[simp] theorem sb_8_32 : (("12" : Str) == "pick") = false := by decide +kernel
@[simp] theorem sn_8_33 : ¬ (("12" : Str) = "raise") := by decide +kernel
@[simp] theorem sb_8_33 : (("12" : Str) == "raise") = false := by decide +kernel
@[simp] theorem sn_8_34 : ¬ (("12" : Str) = "refused") := by decide +kernel
@[simp] theorem sb_8_34 : (("12" : Str) == "refused") = false := by decide +kernel
@[simp] theorem sn_8_35 : ¬ (("12" : Str) = "root") := by decide +kernel
@[simp] theorem sb_8_35 : (("12" : Str) == "root") = false := by decide +kernel
@[simp] theorem sn_8_36 : ¬ (("12" : Str) = "told") := by decide +kernel
@[simp] theorem sb_8_36 : (("12" : Str) == "told") = false := by decide +kernel
@[simp] theorem sn_8_37 : ¬ (("12" : Str) = "truth") := by decide +kernel
@[simp] theorem sb_8_37 : (("12" : Str) == "truth") = false := by decide +kernel
@[simp] theorem sn_8_38 : ¬ (("12" : Str) = "try") := by decide +kernel
@[simp] theorem sb_8_38 : (("12" : Str) == "try") = false := by decide +kernel
@[simp] theorem sn_9_0 : ¬ (("2" : Str) = "") := by decide +kernel
@[simp] theorem sb_9_0 : (("2" : Str) == "") = false := by decide +kernel
@[simp] theorem sn_9_1 : ¬ (("2" : Str) = "+-*/<=") := by decide +kernel
@[simp] theorem sb_9_1 : (("2" : Str) == "+-*/<=") = false := by decide +kernel
@[simp] theorem sn_9_2 : ¬ (("2" : Str) = "0") := by decide +kernel
@[simp] theorem sb_9_2 : (("2" : Str) == "0") = false := by decide +kernel
@[simp] theorem sn_9_3 : ¬ (("2" : Str) = "0123456789") := by decide +kernel
@[simp] theorem sb_9_3 : (("2" : Str) == "0123456789") = false := by decide +kernel
@[simp] theorem sn_9_4 : ¬ (("2" : Str) = "1") := by decide +kernel
@[simp] theorem sb_9_4 : (("2" : Str) == "1") = false := by decide +kernel
@[simp] theorem sn_9_5 : ¬ (("2" : Str) = "10") := by decide +kernel
@[simp] theorem sb_9_5 : (("2" : Str) == "10") = false := by decide +kernel
@[simp] theorem sn_9_6 : ¬ (("2" : Str) = "100") := by decide +kernel
@[simp] theorem sb_9_6 : (("2" : Str) == "100") = false := by decide +kernel
@[simp] theorem sn_9_7 : ¬ (("2" : Str) = "11") := by decide +kernel
@[simp] theorem sb_9_7 : (("2" : Str) == "11") = false := by decide +kernel
@[simp] theorem sn_9_8 : ¬ (("2" : Str) = "12") := by decide +kernel
@[simp] theorem sb_9_8 : (("2" : Str) == "12") = false := by decide +kernel
@[simp] theorem sn_9_10 : ¬ (("2" : Str) = "20") := by decide +kernel
@[simp] theorem sb_9_10 : (("2" : Str) == "20") = false := by decide +kernel
@[simp] theorem sn_9_11 : ¬ (("2" : Str) = "21") := by decide +kernel
@[simp] theorem sb_9_11 : (("2" : Str) == "21") = false := by decide +kernel
@[simp] theorem sn_9_12 : ¬ (("2" : Str) = "3") := by decide +kernel
@[simp] theorem sb_9_12 : (("2" : Str) == "3") = false := by decide +kernel
@[simp] theorem sn_9_13 : ¬ (("2" : Str) = "9") := by decide +kernel
@[simp] theorem sb_9_13 : (("2" : Str) == "9") = false := by decide +kernel
@[simp] theorem sn_9_14 : ¬ (("2" : Str) = "999") := by decide +kernel
@[simp] theorem sb_9_14 : (("2" : Str) == "999") = false := by decide +kernel
@[simp] theorem sn_9_15 : ¬ (("2" : Str) = "abcdefghijklmnopqrstuvwxyz") := by decide +kernel
@[simp] theorem sb_9_15 : (("2" : Str) == "abcdefghijklmnopqrstuvwxyz") = false := by decide +kernel
@[simp] theorem sn_9_16 : ¬ (("2" : Str) = "call") := by decide +kernel
@[simp] theorem sb_9_16 : (("2" : Str) == "call") = false := by decide +kernel
@[simp] theorem sn_9_17 : ¬ (("2" : Str) = "do") := by decide +kernel
@[simp] theorem sb_9_17 : (("2" : Str) == "do") = false := by decide +kernel
@[simp] theorem sn_9_18 : ¬ (("2" : Str) = "dry") := by decide +kernel
@[simp] theorem sb_9_18 : (("2" : Str) == "dry") = false := by decide +kernel
@[simp] theorem sn_9_19 : ¬ (("2" : Str) = "far") := by decide +kernel
@[simp] theorem sb_9_19 : (("2" : Str) == "far") = false := by decide +kernel
@[simp] theorem sn_9_20 : ¬ (("2" : Str) = "if") := by decide +kernel
@[simp] theorem sb_9_20 : (("2" : Str) == "if") = false := by decide +kernel
@[simp] theorem sn_9_21 : ¬ (("2" : Str) = "kind") := by decide +kernel
@[simp] theorem sb_9_21 : (("2" : Str) == "kind") = false := by decide +kernel
@[simp] theorem sn_9_22 : ¬ (("2" : Str) = "lack") := by decide +kernel
@[simp] theorem sb_9_22 : (("2" : Str) == "lack") = false := by decide +kernel
@[simp] theorem sn_9_23 : ¬ (("2" : Str) = "let") := by decide +kernel
@[simp] theorem sb_9_23 : (("2" : Str) == "let") = false := by decide +kernel
@[simp] theorem sn_9_24 : ¬ (("2" : Str) = "loop") := by decide +kernel
@[simp] theorem sb_9_24 : (("2" : Str) == "loop") = false := by decide +kernel
@[simp] theorem sn_9_25 : ¬ (("2" : Str) = "many") := by decide +kernel
@[simp] theorem sb_9_25 : (("2" : Str) == "many") = false := by decide +kernel
@[simp] theorem sn_9_26 : ¬ (("2" : Str) = "mark") := by decide +kernel
@[simp] theorem sb_9_26 : (("2" : Str) == "mark") = false := by decide +kernel
@[simp] theorem sn_9_27 : ¬ (("2" : Str) = "melt") := by decide +kernel
@[simp] theorem sb_9_27 : (("2" : Str) == "melt") = false := by decide +kernel
@[simp] theorem sn_9_28 : ¬ (("2" : Str) = "name") := by decide +kernel
@[simp] theorem sb_9_28 : (("2" : Str) == "name") = false := by decide +kernel
@[simp] theorem sn_9_29 : ¬ (("2" : Str) = "nought") := by decide +kernel
@[simp] theorem sb_9_29 : (("2" : Str) == "nought") = false := by decide +kernel
@[simp] theorem sn_9_30 : ¬ (("2" : Str) = "number") := by decide +kernel
@[simp] theorem sb_9_30 : (("2" : Str) == "number") = false := by decide +kernel
@[simp] theorem sn_9_31 : ¬ (("2" : Str) = "parts") := by decide +kernel
@[simp] theorem sb_9_31 : (("2" : Str) == "parts") = false := by decide +kernel
@[simp] theorem sn_9_32 : ¬ (("2" : Str) = "pick") := by decide +kernel
@[simp] theorem sb_9_32 : (("2" : Str) == "pick") = false := by decide +kernel
@[simp] theorem sn_9_33 : ¬ (("2" : Str) = "raise") := by decide +kernel
@[simp] theorem sb_9_33 : (("2" : Str) == "raise") = false := by decide +kernel
@[simp] theorem sn_9_34 : ¬ (("2" : Str) = "refused") := by decide +kernel
@[simp] theorem sb_9_34 : (("2" : Str) == "refused") = false := by decide +kernel
@[simp] theorem sn_9_35 : ¬ (("2" : Str) = "root") := by decide +kernel
@[simp] theorem sb_9_35 : (("2" : Str) == "root") = false := by decide +kernel
@[simp] theorem sn_9_36 : ¬ (("2" : Str) = "told") := by decide +kernel
@[simp] theorem sb_9_36 : (("2" : Str) == "told") = false := by decide +kernel
@[simp] theorem sn_9_37 : ¬ (("2" : Str) = "truth") := by decide +kernel
@[simp] theorem sb_9_37 : (("2" : Str) == "truth") = false := by decide +kernel
@[simp] theorem sn_9_38 : ¬ (("2" : Str) = "try") := by decide +kernel
@[simp] theorem sb_9_38 : (("2" : Str) == "try") = false := by decide +kernel
@[simp] theorem sn_10_0 : ¬ (("20" : Str) = "") := by decide +kernel
@[simp] theorem sb_10_0 : (("20" : Str) == "") = false := by decide +kernel
@[simp] theorem sn_10_1 : ¬ (("20" : Str) = "+-*/<=") := by decide +kernel
@[simp] theorem sb_10_1 : (("20" : Str) == "+-*/<=") = false := by decide +kernel
@[simp] theorem sn_10_2 : ¬ (("20" : Str) = "0") := by decide +kernel
@[simp] theorem sb_10_2 : (("20" : Str) == "0") = false := by decide +kernel
@[simp] theorem sn_10_3 : ¬ (("20" : Str) = "0123456789") := by decide +kernel
@[simp] theorem sb_10_3 : (("20" : Str) == "0123456789") = false := by decide +kernel
@[simp] theorem sn_10_4 : ¬ (("20" : Str) = "1") := by decide +kernel
@[simp] theorem sb_10_4 : (("20" : Str) == "1") = false := by decide +kernel
@[simp] theorem sn_10_5 : ¬ (("20" : Str) = "10") := by decide +kernel
@[simp] theorem sb_10_5 : (("20" : Str) == "10") = false := by decide +kernel
@[simp] theorem sn_10_6 : ¬ (("20" : Str) = "100") := by decide +kernel
@[simp] theorem sb_10_6 : (("20" : Str) == "100") = false := by decide +kernel
@[simp] theorem sn_10_7 : ¬ (("20" : Str) = "11") := by decide +kernel
@[simp] theorem sb_10_7 : (("20" : Str) == "11") = false := by decide +kernel
@[simp] theorem sn_10_8 : ¬ (("20" : Str) = "12") := by decide +kernel
@[simp] theorem sb_10_8 : (("20" : Str) == "12") = false := by decide +kernel
@[simp] theorem sn_10_9 : ¬ (("20" : Str) = "2") := by decide +kernel
@[simp] theorem sb_10_9 : (("20" : Str) == "2") = false := by decide +kernel
@[simp] theorem sn_10_11 : ¬ (("20" : Str) = "21") := by decide +kernel
@[simp] theorem sb_10_11 : (("20" : Str) == "21") = false := by decide +kernel
@[simp] theorem sn_10_12 : ¬ (("20" : Str) = "3") := by decide +kernel
@[simp] theorem sb_10_12 : (("20" : Str) == "3") = false := by decide +kernel
@[simp] theorem sn_10_13 : ¬ (("20" : Str) = "9") := by decide +kernel
@[simp] theorem sb_10_13 : (("20" : Str) == "9") = false := by decide +kernel
@[simp] theorem sn_10_14 : ¬ (("20" : Str) = "999") := by decide +kernel
@[simp] theorem sb_10_14 : (("20" : Str) == "999") = false := by decide +kernel
@[simp] theorem sn_10_15 : ¬ (("20" : Str) = "abcdefghijklmnopqrstuvwxyz") := by decide +kernel
@[simp] theorem sb_10_15 : (("20" : Str) == "abcdefghijklmnopqrstuvwxyz") = false := by decide +kernel
@[simp] theorem sn_10_16 : ¬ (("20" : Str) = "call") := by decide +kernel
@[simp] theorem sb_10_16 : (("20" : Str) == "call") = false := by decide +kernel
@[simp] theorem sn_10_17 : ¬ (("20" : Str) = "do") := by decide +kernel
@[simp] theorem sb_10_17 : (("20" : Str) == "do") = false := by decide +kernel
@[simp] theorem sn_10_18 : ¬ (("20" : Str) = "dry") := by decide +kernel
@[simp] theorem sb_10_18 : (("20" : Str) == "dry") = false := by decide +kernel
@[simp] theorem sn_10_19 : ¬ (("20" : Str) = "far") := by decide +kernel
@[simp] theorem sb_10_19 : (("20" : Str) == "far") = false := by decide +kernel
@[simp] theorem sn_10_20 : ¬ (("20" : Str) = "if") := by decide +kernel
@[simp] theorem sb_10_20 : (("20" : Str) == "if") = false := by decide +kernel
@[simp] theorem sn_10_21 : ¬ (("20" : Str) = "kind") := by decide +kernel
@[simp] theorem sb_10_21 : (("20" : Str) == "kind") = false := by decide +kernel
@[simp] theorem sn_10_22 : ¬ (("20" : Str) = "lack") := by decide +kernel
@[simp] theorem sb_10_22 : (("20" : Str) == "lack") = false := by decide +kernel
@[simp] theorem sn_10_23 : ¬ (("20" : Str) = "let") := by decide +kernel
@[simp] theorem sb_10_23 : (("20" : Str) == "let") = false := by decide +kernel
@[simp] theorem sn_10_24 : ¬ (("20" : Str) = "loop") := by decide +kernel
@[simp] theorem sb_10_24 : (("20" : Str) == "loop") = false := by decide +kernel
@[simp] theorem sn_10_25 : ¬ (("20" : Str) = "many") := by decide +kernel
@[simp] theorem sb_10_25 : (("20" : Str) == "many") = false := by decide +kernel
@[simp] theorem sn_10_26 : ¬ (("20" : Str) = "mark") := by decide +kernel
@[simp] theorem sb_10_26 : (("20" : Str) == "mark") = false := by decide +kernel
@[simp] theorem sn_10_27 : ¬ (("20" : Str) = "melt") := by decide +kernel
@[simp] theorem sb_10_27 : (("20" : Str) == "melt") = false := by decide +kernel
@[simp] theorem sn_10_28 : ¬ (("20" : Str) = "name") := by decide +kernel
@[simp] theorem sb_10_28 : (("20" : Str) == "name") = false := by decide +kernel
@[simp] theorem sn_10_29 : ¬ (("20" : Str) = "nought") := by decide +kernel
@[simp] theorem sb_10_29 : (("20" : Str) == "nought") = false := by decide +kernel
@[simp] theorem sn_10_30 : ¬ (("20" : Str) = "number") := by decide +kernel
@[simp] theorem sb_10_30 : (("20" : Str) == "number") = false := by decide +kernel
@[simp] theorem sn_10_31 : ¬ (("20" : Str) = "parts") := by decide +kernel
@[simp] theorem sb_10_31 : (("20" : Str) == "parts") = false := by decide +kernel
@[simp] theorem sn_10_32 : ¬ (("20" : Str) = "pick") := by decide +kernel
@[simp] theorem sb_10_32 : (("20" : Str) == "pick") = false := by decide +kernel
@[simp] theorem sn_10_33 : ¬ (("20" : Str) = "raise") := by decide +kernel
@[simp] theorem sb_10_33 : (("20" : Str) == "raise") = false := by decide +kernel
@[simp] theorem sn_10_34 : ¬ (("20" : Str) = "refused") := by decide +kernel
@[simp] theorem sb_10_34 : (("20" : Str) == "refused") = false := by decide +kernel
@[simp] theorem sn_10_35 : ¬ (("20" : Str) = "root") := by decide +kernel
@[simp] theorem sb_10_35 : (("20" : Str) == "root") = false := by decide +kernel
@[simp] theorem sn_10_36 : ¬ (("20" : Str) = "told") := by decide +kernel
@[simp] theorem sb_10_36 : (("20" : Str) == "told") = false := by decide +kernel
@[simp] theorem sn_10_37 : ¬ (("20" : Str) = "truth") := by decide +kernel
@[simp] theorem sb_10_37 : (("20" : Str) == "truth") = false := by decide +kernel
@[simp] theorem sn_10_38 : ¬ (("20" : Str) = "try") := by decide +kernel
@[simp] theorem sb_10_38 : (("20" : Str) == "try") = false := by decide +kernel
@[simp] theorem sn_11_0 : ¬ (("21" : Str) = "") := by decide +kernel
@[simp] theorem sb_11_0 : (("21" : Str) == "") = false := by decide +kernel
@[simp] theorem sn_11_1 : ¬ (("21" : Str) = "+-*/<=") := by decide +kernel
@[simp] theorem sb_11_1 : (("21" : Str) == "+-*/<=") = false := by decide +kernel
@[simp] theorem sn_11_2 : ¬ (("21" : Str) = "0") := by decide +kernel
@[simp] theorem sb_11_2 : (("21" : Str) == "0") = false := by decide +kernel
@[simp] theorem sn_11_3 : ¬ (("21" : Str) = "0123456789") := by decide +kernel
@[simp] theorem sb_11_3 : (("21" : Str) == "0123456789") = false := by decide +kernel
@[simp] theorem sn_11_4 : ¬ (("21" : Str) = "1") := by decide +kernel
@[simp] theorem sb_11_4 : (("21" : Str) == "1") = false := by decide +kernel
@[simp] theorem sn_11_5 : ¬ (("21" : Str) = "10") := by decide +kernel
@[simp] theorem sb_11_5 : (("21" : Str) == "10") = false := by decide +kernel
@[simp] theorem sn_11_6 : ¬ (("21" : Str) = "100") := by decide +kernel
@[simp] theorem sb_11_6 : (("21" : Str) == "100") = false := by decide +kernel
@[simp] theorem sn_11_7 : ¬ (("21" : Str) = "11") := by decide +kernel
@[simp] theorem sb_11_7 : (("21" : Str) == "11") = false := by decide +kernel
@[simp] theorem sn_11_8 : ¬ (("21" : Str) = "12") := by decide +kernel
@[simp] theorem sb_11_8 : (("21" : Str) == "12") = false := by decide +kernel
@[simp] theorem sn_11_9 : ¬ (("21" : Str) = "2") := by decide +kernel
@[simp] theorem sb_11_9 : (("21" : Str) == "2") = false := by decide +kernel
@[simp] theorem sn_11_10 : ¬ (("21" : Str) = "20") := by decide +kernel
@[simp] theorem sb_11_10 : (("21" : Str) == "20") = false := by decide +kernel
@[simp] theorem sn_11_12 : ¬ (("21" : Str) = "3") := by decide +kernel
@[simp] theorem sb_11_12 : (("21" : Str) == "3") = false := by decide +kernel
@[simp] theorem sn_11_13 : ¬ (("21" : Str) = "9") := by decide +kernel
@[simp] theorem sb_11_13 : (("21" : Str) == "9") = false := by decide +kernel
@[simp] theorem sn_11_14 : ¬ (("21" : Str) = "999") := by decide +kernel
@[simp] theorem sb_11_14 : (("21" : Str) == "999") = false := by decide +kernel
@[simp] theorem sn_11_15 : ¬ (("21" : Str) = "abcdefghijklmnopqrstuvwxyz") := by decide +kernel
@[simp] theorem sb_11_15 : (("21" : Str) == "abcdefghijklmnopqrstuvwxyz") = false := by decide +kernel
@[simp] theorem sn_11_16 : ¬ (("21" : Str) = "call") := by decide +kernel
@[simp] theorem sb_11_16 : (("21" : Str) == "call") = false := by decide +kernel
@[simp] theorem sn_11_17 : ¬ (("21" : Str) = "do") := by decide +kernel
@[simp] theorem sb_11_17 : (("21" : Str) == "do") = false := by decide +kernel
@[simp] theorem sn_11_18 : ¬ (("21" : Str) = "dry") := by decide +kernel
@[simp] theorem sb_11_18 : (("21" : Str) == "dry") = false := by decide +kernel
@[simp] theorem sn_11_19 : ¬ (("21" : Str) = "far") := by decide +kernel
@[simp] theorem sb_11_19 : (("21" : Str) == "far") = false := by decide +kernel
@[simp] theorem sn_11_20 : ¬ (("21" : Str) = "if") := by decide +kernel
@[simp] theorem sb_11_20 : (("21" : Str) == "if") = false := by decide +kernel
@[simp] theorem sn_11_21 : ¬ (("21" : Str) = "kind") := by decide +kernel
@[simp] theorem sb_11_21 : (("21" : Str) == "kind") = false := by decide +kernel
@[simp] theorem sn_11_22 : ¬ (("21" : Str) = "lack") := by decide +kernel
@[simp] theorem sb_11_22 : (("21" : Str) == "lack") = false := by decide +kernel
@[simp] theorem sn_11_23 : ¬ (("21" : Str) = "let") := by decide +kernel
@[simp] theorem sb_11_23 : (("21" : Str) == "let") = false := by decide +kernel
@[simp] theorem sn_11_24 : ¬ (("21" : Str) = "loop") := by decide +kernel
@[simp] theorem sb_11_24 : (("21" : Str) == "loop") = false := by decide +kernel
@[simp] theorem sn_11_25 : ¬ (("21" : Str) = "many") := by decide +kernel
@[simp] theorem sb_11_25 : (("21" : Str) == "many") = false := by decide +kernel
@[simp] theorem sn_11_26 : ¬ (("21" : Str) = "mark") := by decide +kernel
@[simp] theorem sb_11_26 : (("21" : Str) == "mark") = false := by decide +kernel
@[simp] theorem sn_11_27 : ¬ (("21" : Str) = "melt") := by decide +kernel
@[simp] theorem sb_11_27 : (("21" : Str) == "melt") = false := by decide +kernel
@[simp] theorem sn_11_28 : ¬ (("21" : Str) = "name") := by decide +kernel
@[simp] theorem sb_11_28 : (("21" : Str) == "name") = false := by decide +kernel
@[simp] theorem sn_11_29 : ¬ (("21" : Str) = "nought") := by decide +kernel
@[simp] theorem sb_11_29 : (("21" : Str) == "nought") = false := by decide +kernel
@[simp] theorem sn_11_30 : ¬ (("21" : Str) = "number") := by decide +kernel
@[simp] theorem sb_11_30 : (("21" : Str) == "number") = false := by decide +kernel
@[simp] theorem sn_11_31 : ¬ (("21" : Str) = "parts") := by decide +kernel
@[simp] theorem sb_11_31 : (("21" : Str) == "parts") = false := by decide +kernel
@[simp] theorem sn_11_32 : ¬ (("21" : Str) = "pick") := by decide +kernel
@[simp] theorem sb_11_32 : (("21" : Str) == "pick") = false := by decide +kernel
@[simp] theorem sn_11_33 : ¬ (("21" : Str) = "raise") := by decide +kernel
@[simp] theorem sb_11_33 : (("21" : Str) == "raise") = false := by decide +kernel
@[simp] theorem sn_11_34 : ¬ (("21" : Str) = "refused") := by decide +kernel
@[simp] theorem sb_11_34 : (("21" : Str) == "refused") = false := by decide +kernel
@[simp] theorem sn_11_35 : ¬ (("21" : Str) = "root") := by decide +kernel
@[simp] theorem sb_11_35 : (("21" : Str) == "root") = false := by decide +kernel
@[simp] theorem sn_11_36 : ¬ (("21" : Str) = "told") := by decide +kernel
@[simp] theorem sb_11_36 : (("21" : Str) == "told") = false := by decide +kernel
@[simp] theorem sn_11_37 : ¬ (("21" : Str) = "truth") := by decide +kernel
@[simp] theorem sb_11_37 : (("21" : Str) == "truth") = false := by decide +kernel
@[simp] theorem sn_11_38 : ¬ (("21" : Str) = "try") := by decide +kernel
@[simp] theorem sb_11_38 : (("21" : Str) == "try") = false := by decide +kernel
@[simp] theorem sn_12_0 : ¬ (("3" : Str) = "") := by decide +kernel
@[simp] theorem sb_12_0 : (("3" : Str) == "") = false := by decide +kernel
@[simp] theorem sn_12_1 : ¬ (("3" : Str) = "+-*/<=") := by decide +kernel
@[simp] theorem sb_12_1 : (("3" : Str) == "+-*/<=") = false := by decide +kernel
@[simp] theorem sn_12_2 : ¬ (("3" : Str) = "0") := by decide +kernel
@[simp] theorem sb_12_2 : (("3" : Str) == "0") = false := by decide +kernel
@[simp] theorem sn_12_3 : ¬ (("3" : Str) = "0123456789") := by decide +kernel
@[simp] theorem sb_12_3 : (("3" : Str) == "0123456789") = false := by decide +kernel
@[simp] theorem sn_12_4 : ¬ (("3" : Str) = "1") := by decide +kernel
@[simp] theorem sb_12_4 : (("3" : Str) == "1") = false := by decide +kernel
@[simp] theorem sn_12_5 : ¬ (("3" : Str) = "10") := by decide +kernel
@[simp] theorem sb_12_5 : (("3" : Str) == "10") = false := by decide +kernel
@[simp] theorem sn_12_6 : ¬ (("3" : Str) = "100") := by decide +kernel
@[simp] theorem sb_12_6 : (("3" : Str) == "100") = false := by decide +kernel
@[simp] theorem sn_12_7 : ¬ (("3" : Str) = "11") := by decide +kernel
@[simp] theorem sb_12_7 : (("3" : Str) == "11") = false := by decide +kernel
@[simp] theorem sn_12_8 : ¬ (("3" : Str) = "12") := by decide +kernel
@[simp] theorem sb_12_8 : (("3" : Str) == "12") = false := by decide +kernel
@[simp] theorem sn_12_9 : ¬ (("3" : Str) = "2") := by decide +kernel
@[simp] theorem sb_12_9 : (("3" : Str) == "2") = false := by decide +kernel
@[simp] theorem sn_12_10 : ¬ (("3" : Str) = "20") := by decide +kernel
@[simp] theorem sb_12_10 : (("3" : Str) == "20") = false := by decide +kernel
@[simp] theorem sn_12_11 : ¬ (("3" : Str) = "21") := by decide +kernel
@[simp] theorem sb_12_11 : (("3" : Str) == "21") = false := by decide +kernel
@[simp] theorem sn_12_13 : ¬ (("3" : Str) = "9") := by decide +kernel
@[simp] theorem sb_12_13 : (("3" : Str) == "9") = false := by decide +kernel
@[simp] theorem sn_12_14 : ¬ (("3" : Str) = "999") := by decide +kernel
@[simp] theorem sb_12_14 : (("3" : Str) == "999") = false := by decide +kernel
@[simp] theorem sn_12_15 : ¬ (("3" : Str) = "abcdefghijklmnopqrstuvwxyz") := by decide +kernel
@[simp] theorem sb_12_15 : (("3" : Str) == "abcdefghijklmnopqrstuvwxyz") = false := by decide +kernel
@[simp] theorem sn_12_16 : ¬ (("3" : Str) = "call") := by decide +kernel
@[simp] theorem sb_12_16 : (("3" : Str) == "call") = false := by decide +kernel
@[simp] theorem sn_12_17 : ¬ (("3" : Str) = "do") := by decide +kernel
@[simp] theorem sb_12_17 : (("3" : Str) == "do") = false := by decide +kernel
@[simp] theorem sn_12_18 : ¬ (("3" : Str) = "dry") := by decide +kernel
@[simp] theorem sb_12_18 : (("3" : Str) == "dry") = false := by decide +kernel
@[simp] theorem sn_12_19 : ¬ (("3" : Str) = "far") := by decide +kernel
@[simp] theorem sb_12_19 : (("3" : Str) == "far") = false := by decide +kernel
@[simp] theorem sn_12_20 : ¬ (("3" : Str) = "if") := by decide +kernel
@[simp] theorem sb_12_20 : (("3" : Str) == "if") = false := by decide +kernel
@[simp] theorem sn_12_21 : ¬ (("3" : Str) = "kind") := by decide +kernel
@[simp] theorem sb_12_21 : (("3" : Str) == "kind") = false := by decide +kernel
@[simp] theorem sn_12_22 : ¬ (("3" : Str) = "lack") := by decide +kernel
@[simp] theorem sb_12_22 : (("3" : Str) == "lack") = false := by decide +kernel
@[simp] theorem sn_12_23 : ¬ (("3" : Str) = "let") := by decide +kernel
@[simp] theorem sb_12_23 : (("3" : Str) == "let") = false := by decide +kernel
@[simp] theorem sn_12_24 : ¬ (("3" : Str) = "loop") := by decide +kernel
@[simp] theorem sb_12_24 : (("3" : Str) == "loop") = false := by decide +kernel
@[simp] theorem sn_12_25 : ¬ (("3" : Str) = "many") := by decide +kernel
@[simp] theorem sb_12_25 : (("3" : Str) == "many") = false := by decide +kernel
@[simp] theorem sn_12_26 : ¬ (("3" : Str) = "mark") := by decide +kernel
@[simp] theorem sb_12_26 : (("3" : Str) == "mark") = false := by decide +kernel
@[simp] theorem sn_12_27 : ¬ (("3" : Str) = "melt") := by decide +kernel
@[simp] theorem sb_12_27 : (("3" : Str) == "melt") = false := by decide +kernel
@[simp] theorem sn_12_28 : ¬ (("3" : Str) = "name") := by decide +kernel
@[simp] theorem sb_12_28 : (("3" : Str) == "name") = false := by decide +kernel
@[simp] theorem sn_12_29 : ¬ (("3" : Str) = "nought") := by decide +kernel
@[simp] theorem sb_12_29 : (("3" : Str) == "nought") = false := by decide +kernel
@[simp] theorem sn_12_30 : ¬ (("3" : Str) = "number") := by decide +kernel
@[simp] theorem sb_12_30 : (("3" : Str) == "number") = false := by decide +kernel
@[simp] theorem sn_12_31 : ¬ (("3" : Str) = "parts") := by decide +kernel
@[simp] theorem sb_12_31 : (("3" : Str) == "parts") = false := by decide +kernel
@[simp] theorem sn_12_32 : ¬ (("3" : Str) = "pick") := by decide +kernel
@[simp] theorem sb_12_32 : (("3" : Str) == "pick") = false := by decide +kernel
@[simp] theorem sn_12_33 : ¬ (("3" : Str) = "raise") := by decide +kernel
@[simp] theorem sb_12_33 : (("3" : Str) == "raise") = false := by decide +kernel
@[simp] theorem sn_12_34 : ¬ (("3" : Str) = "refused") := by decide +kernel
@[simp] theorem sb_12_34 : (("3" : Str) == "refused") = false := by decide +kernel
@[simp] theorem sn_12_35 : ¬ (("3" : Str) = "root") := by decide +kernel
@[simp] theorem sb_12_35 : (("3" : Str) == "root") = false := by decide +kernel
@[simp] theorem sn_12_36 : ¬ (("3" : Str) = "told") := by decide +kernel
@[simp] theorem sb_12_36 : (("3" : Str) == "told") = false := by decide +kernel
@[simp] theorem sn_12_37 : ¬ (("3" : Str) = "truth") := by decide +kernel
@[simp] theorem sb_12_37 : (("3" : Str) == "truth") = false := by decide +kernel
@[simp] theorem sn_12_38 : ¬ (("3" : Str) = "try") := by decide +kernel
@[simp] theorem sb_12_38 : (("3" : Str) == "try") = false := by decide +kernel
@[simp] theorem sn_13_0 : ¬ (("9" : Str) = "") := by decide +kernel
@[simp] theorem sb_13_0 : (("9" : Str) == "") = false := by decide +kernel
@[simp] theorem sn_13_1 : ¬ (("9" : Str) = "+-*/<=") := by decide +kernel
@[simp] theorem sb_13_1 : (("9" : Str) == "+-*/<=") = false := by decide +kernel
@[simp] theorem sn_13_2 : ¬ (("9" : Str) = "0") := by decide +kernel
@[simp] theorem sb_13_2 : (("9" : Str) == "0") = false := by decide +kernel
@[simp] theorem sn_13_3 : ¬ (("9" : Str) = "0123456789") := by decide +kernel
@[simp] theorem sb_13_3 : (("9" : Str) == "0123456789") = false := by decide +kernel
@[simp] theorem sn_13_4 : ¬ (("9" : Str) = "1") := by decide +kernel
@[simp] theorem sb_13_4 : (("9" : Str) == "1") = false := by decide +kernel
@[simp] theorem sn_13_5 : ¬ (("9" : Str) = "10") := by decide +kernel
@[simp] theorem sb_13_5 : (("9" : Str) == "10") = false := by decide +kernel
@[simp] theorem sn_13_6 : ¬ (("9" : Str) = "100") := by decide +kernel
@[simp] theorem sb_13_6 : (("9" : Str) == "100") = false := by decide +kernel
@[simp] theorem sn_13_7 : ¬ (("9" : Str) = "11") := by decide +kernel
@[simp] theorem sb_13_7 : (("9" : Str) == "11") = false := by decide +kernel
@[simp] theorem sn_13_8 : ¬ (("9" : Str) = "12") := by decide +kernel
@[simp] theorem sb_13_8 : (("9" : Str) == "12") = false := by decide +kernel
@[simp] theorem sn_13_9 : ¬ (("9" : Str) = "2") := by decide +kernel
@[simp] theorem sb_13_9 : (("9" : Str) == "2") = false := by decide +kernel
@[simp] theorem sn_13_10 : ¬ (("9" : Str) = "20") := by decide +kernel
@[simp] theorem sb_13_10 : (("9" : Str) == "20") = false := by decide +kernel
@[simp] theorem sn_13_11 : ¬ (("9" : Str) = "21") := by decide +kernel
@[simp] theorem sb_13_11 : (("9" : Str) == "21") = false := by decide +kernel
@[simp] theorem sn_13_12 : ¬ (("9" : Str) = "3") := by decide +kernel
@[simp] theorem sb_13_12 : (("9" : Str) == "3") = false := by decide +kernel
@[simp] theorem sn_13_14 : ¬ (("9" : Str) = "999") := by decide +kernel
@[simp] theorem sb_13_14 : (("9" : Str) == "999") = false := by decide +kernel
@[simp] theorem sn_13_15 : ¬ (("9" : Str) = "abcdefghijklmnopqrstuvwxyz") := by decide +kernel
@[simp] theorem sb_13_15 : (("9" : Str) == "abcdefghijklmnopqrstuvwxyz") = false := by decide +kernel
@[simp] theorem sn_13_16 : ¬ (("9" : Str) = "call") := by decide +kernel
@[simp] theorem sb_13_16 : (("9" : Str) == "call") = false := by decide +kernel
@[simp] theorem sn_13_17 : ¬ (("9" : Str) = "do") := by decide +kernel
@[simp] theorem sb_13_17 : (("9" : Str) == "do") = false := by decide +kernel
@[simp] theorem sn_13_18 : ¬ (("9" : Str) = "dry") := by decide +kernel
@[simp] theorem sb_13_18 : (("9" : Str) == "dry") = false := by decide +kernel
@[simp] theorem sn_13_19 : ¬ (("9" : Str) = "far") := by decide +kernel
@[simp] theorem sb_13_19 : (("9" : Str) == "far") = false := by decide +kernel
@[simp] theorem sn_13_20 : ¬ (("9" : Str) = "if") := by decide +kernel
@[simp] theorem sb_13_20 : (("9" : Str) == "if") = false := by decide +kernel
@[simp] theorem sn_13_21 : ¬ (("9" : Str) = "kind") := by decide +kernel
@[simp] theorem sb_13_21 : (("9" : Str) == "kind") = false := by decide +kernel
@[simp] theorem sn_13_22 : ¬ (("9" : Str) = "lack") := by decide +kernel
@[simp] theorem sb_13_22 : (("9" : Str) == "lack") = false := by decide +kernel
@[simp] theorem sn_13_23 : ¬ (("9" : Str) = "let") := by decide +kernel
@[simp] theorem sb_13_23 : (("9" : Str) == "let") = false := by decide +kernel
@[simp] theorem sn_13_24 : ¬ (("9" : Str) = "loop") := by decide +kernel
@[simp] theorem sb_13_24 : (("9" : Str) == "loop") = false := by decide +kernel
@[simp] theorem sn_13_25 : ¬ (("9" : Str) = "many") := by decide +kernel
@[simp] theorem sb_13_25 : (("9" : Str) == "many") = false := by decide +kernel
@[simp] theorem sn_13_26 : ¬ (("9" : Str) = "mark") := by decide +kernel
@[simp] theorem sb_13_26 : (("9" : Str) == "mark") = false := by decide +kernel
@[simp] theorem sn_13_27 : ¬ (("9" : Str) = "melt") := by decide +kernel
@[simp] theorem sb_13_27 : (("9" : Str) == "melt") = false := by decide +kernel
@[simp] theorem sn_13_28 : ¬ (("9" : Str) = "name") := by decide +kernel
@[simp] theorem sb_13_28 : (("9" : Str) == "name") = false := by decide +kernel
@[simp] theorem sn_13_29 : ¬ (("9" : Str) = "nought") := by decide +kernel
@[simp] theorem sb_13_29 : (("9" : Str) == "nought") = false := by decide +kernel
@[simp] theorem sn_13_30 : ¬ (("9" : Str) = "number") := by decide +kernel
@[simp] theorem sb_13_30 : (("9" : Str) == "number") = false := by decide +kernel
@[simp] theorem sn_13_31 : ¬ (("9" : Str) = "parts") := by decide +kernel
@[simp] theorem sb_13_31 : (("9" : Str) == "parts") = false := by decide +kernel
@[simp] theorem sn_13_32 : ¬ (("9" : Str) = "pick") := by decide +kernel
@[simp] theorem sb_13_32 : (("9" : Str) == "pick") = false := by decide +kernel
@[simp] theorem sn_13_33 : ¬ (("9" : Str) = "raise") := by decide +kernel
@[simp] theorem sb_13_33 : (("9" : Str) == "raise") = false := by decide +kernel
@[simp] theorem sn_13_34 : ¬ (("9" : Str) = "refused") := by decide +kernel
@[simp] theorem sb_13_34 : (("9" : Str) == "refused") = false := by decide +kernel
@[simp] theorem sn_13_35 : ¬ (("9" : Str) = "root") := by decide +kernel
@[simp] theorem sb_13_35 : (("9" : Str) == "root") = false := by decide +kernel
@[simp] theorem sn_13_36 : ¬ (("9" : Str) = "told") := by decide +kernel
@[simp] theorem sb_13_36 : (("9" : Str) == "told") = false := by decide +kernel
@[simp] theorem sn_13_37 : ¬ (("9" : Str) = "truth") := by decide +kernel
@[simp] theorem sb_13_37 : (("9" : Str) == "truth") = false := by decide +kernel
@[simp] theorem sn_13_38 : ¬ (("9" : Str) = "try") := by decide +kernel
@[simp] theorem sb_13_38 : (("9" : Str) == "try") = false := by decide +kernel
@[simp] theorem sn_14_0 : ¬ (("999" : Str) = "") := by decide +kernel
@[simp] theorem sb_14_0 : (("999" : Str) == "") = false := by decide +kernel
@[simp] theorem sn_14_1 : ¬ (("999" : Str) = "+-*/<=") := by decide +kernel
@[simp] theorem sb_14_1 : (("999" : Str) == "+-*/<=") = false := by decide +kernel
@[simp] theorem sn_14_2 : ¬ (("999" : Str) = "0") := by decide +kernel
@[simp] theorem sb_14_2 : (("999" : Str) == "0") = false := by decide +kernel
@[simp] theorem sn_14_3 : ¬ (("999" : Str) = "0123456789") := by decide +kernel
@[simp] theorem sb_14_3 : (("999" : Str) == "0123456789") = false := by decide +kernel
@[simp] theorem sn_14_4 : ¬ (("999" : Str) = "1") := by decide +kernel
@[simp] theorem sb_14_4 : (("999" : Str) == "1") = false := by decide +kernel
@[simp] theorem sn_14_5 : ¬ (("999" : Str) = "10") := by decide +kernel
@[simp] theorem sb_14_5 : (("999" : Str) == "10") = false := by decide +kernel
@[simp] theorem sn_14_6 : ¬ (("999" : Str) = "100") := by decide +kernel
@[simp] theorem sb_14_6 : (("999" : Str) == "100") = false := by decide +kernel
@[simp] theorem sn_14_7 : ¬ (("999" : Str) = "11") := by decide +kernel
@[simp] theorem sb_14_7 : (("999" : Str) == "11") = false := by decide +kernel
@[simp] theorem sn_14_8 : ¬ (("999" : Str) = "12") := by decide +kernel
@[simp] theorem sb_14_8 : (("999" : Str) == "12") = false := by decide +kernel
@[simp] theorem sn_14_9 : ¬ (("999" : Str) = "2") := by decide +kernel
@[simp] theorem sb_14_9 : (("999" : Str) == "2") = false := by decide +kernel
@[simp] theorem sn_14_10 : ¬ (("999" : Str) = "20") := by decide +kernel
@[simp] theorem sb_14_10 : (("999" : Str) == "20") = false := by decide +kernel
@[simp] theorem sn_14_11 : ¬ (("999" : Str) = "21") := by decide +kernel
@[simp] theorem sb_14_11 : (("999" : Str) == "21") = false := by decide +kernel
@[simp] theorem sn_14_12 : ¬ (("999" : Str) = "3") := by decide +kernel
@[simp] theorem sb_14_12 : (("999" : Str) == "3") = false := by decide +kernel
@[simp] theorem sn_14_13 : ¬ (("999" : Str) = "9") := by decide +kernel
@[simp] theorem sb_14_13 : (("999" : Str) == "9") = false := by decide +kernel
@[simp] theorem sn_14_15 : ¬ (("999" : Str) = "abcdefghijklmnopqrstuvwxyz") := by decide +kernel
@[simp] theorem sb_14_15 : (("999" : Str) == "abcdefghijklmnopqrstuvwxyz") = false := by decide +kernel
@[simp] theorem sn_14_16 : ¬ (("999" : Str) = "call") := by decide +kernel
@[simp] theorem sb_14_16 : (("999" : Str) == "call") = false := by decide +kernel
@[simp] theorem sn_14_17 : ¬ (("999" : Str) = "do") := by decide +kernel
@[simp] theorem sb_14_17 : (("999" : Str) == "do") = false := by decide +kernel
@[simp] theorem sn_14_18 : ¬ (("999" : Str) = "dry") := by decide +kernel
@[simp] theorem sb_14_18 : (("999" : Str) == "dry") = false := by decide +kernel
@[simp] theorem sn_14_19 : ¬ (("999" : Str) = "far") := by decide +kernel
@[simp] theorem sb_14_19 : (("999" : Str) == "far") = false := by decide +kernel
@[simp] theorem sn_14_20 : ¬ (("999" : Str) = "if") := by decide +kernel
@[simp] theorem sb_14_20 : (("999" : Str) == "if") = false := by decide +kernel
@[simp] theorem sn_14_21 : ¬ (("999" : Str) = "kind") := by decide +kernel
@[simp] theorem sb_14_21 : (("999" : Str) == "kind") = false := by decide +kernel
@[simp] theorem sn_14_22 : ¬ (("999" : Str) = "lack") := by decide +kernel
@[simp] theorem sb_14_22 : (("999" : Str) == "lack") = false := by decide +kernel
@[simp] theorem sn_14_23 : ¬ (("999" : Str) = "let") := by decide +kernel
@[simp] theorem sb_14_23 : (("999" : Str) == "let") = false := by decide +kernel
@[simp] theorem sn_14_24 : ¬ (("999" : Str) = "loop") := by decide +kernel
@[simp] theorem sb_14_24 : (("999" : Str) == "loop") = false := by decide +kernel
@[simp] theorem sn_14_25 : ¬ (("999" : Str) = "many") := by decide +kernel
@[simp] theorem sb_14_25 : (("999" : Str) == "many") = false := by decide +kernel
@[simp] theorem sn_14_26 : ¬ (("999" : Str) = "mark") := by decide +kernel
@[simp] theorem sb_14_26 : (("999" : Str) == "mark") = false := by decide +kernel
@[simp] theorem sn_14_27 : ¬ (("999" : Str) = "melt") := by decide +kernel
@[simp] theorem sb_14_27 : (("999" : Str) == "melt") = false := by decide +kernel
@[simp] theorem sn_14_28 : ¬ (("999" : Str) = "name") := by decide +kernel
@[simp] theorem sb_14_28 : (("999" : Str) == "name") = false := by decide +kernel
@[simp] theorem sn_14_29 : ¬ (("999" : Str) = "nought") := by decide +kernel
@[simp] theorem sb_14_29 : (("999" : Str) == "nought") = false := by decide +kernel
@[simp] theorem sn_14_30 : ¬ (("999" : Str) = "number") := by decide +kernel
@[simp] theorem sb_14_30 : (("999" : Str) == "number") = false := by decide +kernel
@[simp] theorem sn_14_31 : ¬ (("999" : Str) = "parts") := by decide +kernel
@[simp] theorem sb_14_31 : (("999" : Str) == "parts") = false := by decide +kernel
@[simp] theorem sn_14_32 : ¬ (("999" : Str) = "pick") := by decide +kernel
@[simp] theorem sb_14_32 : (("999" : Str) == "pick") = false := by decide +kernel
@[simp] theorem sn_14_33 : ¬ (("999" : Str) = "raise") := by decide +kernel
@[simp] theorem sb_14_33 : (("999" : Str) == "raise") = false := by decide +kernel
@[simp] theorem sn_14_34 : ¬ (("999" : Str) = "refused") := by decide +kernel
@[simp] theorem sb_14_34 : (("999" : Str) == "refused") = false := by decide +kernel
@[simp] theorem sn_14_35 : ¬ (("999" : Str) = "root") := by decide +kernel
@[simp] theorem sb_14_35 : (("999" : Str) == "root") = false := by decide +kernel
@[simp] theorem sn_14_36 : ¬ (("999" : Str) = "told") := by decide +kernel
@[simp] theorem sb_14_36 : (("999" : Str) == "told") = false := by decide +kernel
@[simp] theorem sn_14_37 : ¬ (("999" : Str) = "truth") := by decide +kernel
@[simp] theorem sb_14_37 : (("999" : Str) == "truth") = false := by decide +kernel
@[simp] theorem sn_14_38 : ¬ (("999" : Str) = "try") := by decide +kernel
@[simp] theorem sb_14_38 : (("999" : Str) == "try") = false := by decide +kernel
@[simp] theorem sn_15_0 : ¬ (("abcdefghijklmnopqrstuvwxyz" : Str) = "") := by decide +kernel
@[simp] theorem sb_15_0 : (("abcdefghijklmnopqrstuvwxyz" : Str) == "") = false := by decide +kernel
@[simp] theorem sn_15_1 : ¬ (("abcdefghijklmnopqrstuvwxyz" : Str) = "+-*/<=") := by decide +kernel
@[simp] theorem sb_15_1 : (("abcdefghijklmnopqrstuvwxyz" : Str) == "+-*/<=") = false := by decide +kernel
@[simp] theorem sn_15_2 : ¬ (("abcdefghijklmnopqrstuvwxyz" : Str) = "0") := by decide +kernel
@[simp] theorem sb_15_2 : (("abcdefghijklmnopqrstuvwxyz" : Str) == "0") = false := by decide +kernel
@[simp] theorem sn_15_3 : ¬ (("abcdefghijklmnopqrstuvwxyz" : Str) = "0123456789") := by decide +kernel
@[simp] theorem sb_15_3 : (("abcdefghijklmnopqrstuvwxyz" : Str) == "0123456789") = false := by decide +kernel
@[simp] theorem sn_15_4 : ¬ (("abcdefghijklmnopqrstuvwxyz" : Str) = "1") := by decide +kernel
@[simp] theorem sb_15_4 : (("abcdefghijklmnopqrstuvwxyz" : Str) == "1") = false := by decide +kernel
@[simp] theorem sn_15_5 : ¬ (("abcdefghijklmnopqrstuvwxyz" : Str) = "10") := by decide +kernel
@[simp] theorem sb_15_5 : (("abcdefghijklmnopqrstuvwxyz" : Str) == "10") = false := by decide +kernel
@[simp] theorem sn_15_6 : ¬ (("abcdefghijklmnopqrstuvwxyz" : Str) = "100") := by decide +kernel
@[simp] theorem sb_15_6 : (("abcdefghijklmnopqrstuvwxyz" : Str) == "100") = false := by decide +kernel
@[simp] theorem sn_15_7 : ¬ (("abcdefghijklmnopqrstuvwxyz" : Str) = "11") := by decide +kernel
@[simp] theorem sb_15_7 : (("abcdefghijklmnopqrstuvwxyz" : Str) == "11") = false := by decide +kernel
@[simp] theorem sn_15_8 : ¬ (("abcdefghijklmnopqrstuvwxyz" : Str) = "12") := by decide +kernel
@[simp] theorem sb_15_8 : (("abcdefghijklmnopqrstuvwxyz" : Str) == "12") = false := by decide +kernel
@[simp] theorem sn_15_9 : ¬ (("abcdefghijklmnopqrstuvwxyz" : Str) = "2") := by decide +kernel
@[simp] theorem sb_15_9 : (("abcdefghijklmnopqrstuvwxyz" : Str) == "2") = false := by decide +kernel
@[simp] theorem sn_15_10 : ¬ (("abcdefghijklmnopqrstuvwxyz" : Str) = "20") := by decide +kernel
@[simp] theorem sb_15_10 : (("abcdefghijklmnopqrstuvwxyz" : Str) == "20") = false := by decide +kernel
@[simp] theorem sn_15_11 : ¬ (("abcdefghijklmnopqrstuvwxyz" : Str) = "21") := by decide +kernel
@[simp] theorem sb_15_11 : (("abcdefghijklmnopqrstuvwxyz" : Str) == "21") = false := by decide +kernel
@[simp] theorem sn_15_12 : ¬ (("abcdefghijklmnopqrstuvwxyz" : Str) = "3") := by decide +kernel
@[simp] theorem sb_15_12 : (("abcdefghijklmnopqrstuvwxyz" : Str) == "3") = false := by decide +kernel
@[simp] theorem sn_15_13 : ¬ (("abcdefghijklmnopqrstuvwxyz" : Str) = "9") := by decide +kernel
@[simp] theorem sb_15_13 : (("abcdefghijklmnopqrstuvwxyz" : Str) == "9") = false := by decide +kernel
@[simp] theorem sn_15_14 : ¬ (("abcdefghijklmnopqrstuvwxyz" : Str) = "999") := by decide +kernel
@[simp] theorem sb_15_14 : (("abcdefghijklmnopqrstuvwxyz" : Str) == "999") = false := by decide +kernel
@[simp] theorem sn_15_16 : ¬ (("abcdefghijklmnopqrstuvwxyz" : Str) = "call") := by decide +kernel
@[simp] theorem sb_15_16 : (("abcdefghijklmnopqrstuvwxyz" : Str) == "call") = false := by decide +kernel
@[simp] theorem sn_15_17 : ¬ (("abcdefghijklmnopqrstuvwxyz" : Str) = "do") := by decide +kernel
@[simp] theorem sb_15_17 : (("abcdefghijklmnopqrstuvwxyz" : Str) == "do") = false := by decide +kernel
@[simp] theorem sn_15_18 : ¬ (("abcdefghijklmnopqrstuvwxyz" : Str) = "dry") := by decide +kernel
@[simp] theorem sb_15_18 : (("abcdefghijklmnopqrstuvwxyz" : Str) == "dry") = false := by decide +kernel
@[simp] theorem sn_15_19 : ¬ (("abcdefghijklmnopqrstuvwxyz" : Str) = "far") := by decide +kernel
@[simp] theorem sb_15_19 : (("abcdefghijklmnopqrstuvwxyz" : Str) == "far") = false := by decide +kernel
@[simp] theorem sn_15_20 : ¬ (("abcdefghijklmnopqrstuvwxyz" : Str) = "if") := by decide +kernel
@[simp] theorem sb_15_20 : (("abcdefghijklmnopqrstuvwxyz" : Str) == "if") = false := by decide +kernel
@[simp] theorem sn_15_21 : ¬ (("abcdefghijklmnopqrstuvwxyz" : Str) = "kind") := by decide +kernel
@[simp] theorem sb_15_21 : (("abcdefghijklmnopqrstuvwxyz" : Str) == "kind") = false := by decide +kernel
@[simp] theorem sn_15_22 : ¬ (("abcdefghijklmnopqrstuvwxyz" : Str) = "lack") := by decide +kernel
@[simp] theorem sb_15_22 : (("abcdefghijklmnopqrstuvwxyz" : Str) == "lack") = false := by decide +kernel
@[simp] theorem sn_15_23 : ¬ (("abcdefghijklmnopqrstuvwxyz" : Str) = "let") := by decide +kernel
@[simp] theorem sb_15_23 : (("abcdefghijklmnopqrstuvwxyz" : Str) == "let") = false := by decide +kernel
@[simp] theorem sn_15_24 : ¬ (("abcdefghijklmnopqrstuvwxyz" : Str) = "loop") := by decide +kernel
@[simp] theorem sb_15_24 : (("abcdefghijklmnopqrstuvwxyz" : Str) == "loop") = false := by decide +kernel
@[simp] theorem sn_15_25 : ¬ (("abcdefghijklmnopqrstuvwxyz" : Str) = "many") := by decide +kernel
@[simp] theorem sb_15_25 : (("abcdefghijklmnopqrstuvwxyz" : Str) == "many") = false := by decide +kernel
@[simp] theorem sn_15_26 : ¬ (("abcdefghijklmnopqrstuvwxyz" : Str) = "mark") := by decide +kernel
@[simp] theorem sb_15_26 : (("abcdefghijklmnopqrstuvwxyz" : Str) == "mark") = false := by decide +kernel
@[simp] theorem sn_15_27 : ¬ (("abcdefghijklmnopqrstuvwxyz" : Str) = "melt") := by decide +kernel
@[simp] theorem sb_15_27 : (("abcdefghijklmnopqrstuvwxyz" : Str) == "melt") = false := by decide +kernel
@[simp] theorem sn_15_28 : ¬ (("abcdefghijklmnopqrstuvwxyz" : Str) = "name") := by decide +kernel
@[simp] theorem sb_15_28 : (("abcdefghijklmnopqrstuvwxyz" : Str) == "name") = false := by decide +kernel
@[simp] theorem sn_15_29 : ¬ (("abcdefghijklmnopqrstuvwxyz" : Str) = "nought") := by decide +kernel
@[simp] theorem sb_15_29 : (("abcdefghijklmnopqrstuvwxyz" : Str) == "nought") = false := by decide +kernel
@[simp] theorem sn_15_30 : ¬ (("abcdefghijklmnopqrstuvwxyz" : Str) = "number") := by decide +kernel
@[simp] theorem sb_15_30 : (("abcdefghijklmnopqrstuvwxyz" : Str) == "number") = false := by decide +kernel
@[simp] theorem sn_15_31 : ¬ (("abcdefghijklmnopqrstuvwxyz" : Str) = "parts") := by decide +kernel
@[simp] theorem sb_15_31 : (("abcdefghijklmnopqrstuvwxyz" : Str) == "parts") = false := by decide +kernel
@[simp] theorem sn_15_32 : ¬ (("abcdefghijklmnopqrstuvwxyz" : Str) = "pick") := by decide +kernel
@[simp] theorem sb_15_32 : (("abcdefghijklmnopqrstuvwxyz" : Str) == "pick") = false := by decide +kernel
@[simp] theorem sn_15_33 : ¬ (("abcdefghijklmnopqrstuvwxyz" : Str) = "raise") := by decide +kernel
@[simp] theorem sb_15_33 : (("abcdefghijklmnopqrstuvwxyz" : Str) == "raise") = false := by decide +kernel
@[simp] theorem sn_15_34 : ¬ (("abcdefghijklmnopqrstuvwxyz" : Str) = "refused") := by decide +kernel
@[simp] theorem sb_15_34 : (("abcdefghijklmnopqrstuvwxyz" : Str) == "refused") = false := by decide +kernel
@[simp] theorem sn_15_35 : ¬ (("abcdefghijklmnopqrstuvwxyz" : Str) = "root") := by decide +kernel
@[simp] theorem sb_15_35 : (("abcdefghijklmnopqrstuvwxyz" : Str) == "root") = false := by decide +kernel
@[simp] theorem sn_15_36 : ¬ (("abcdefghijklmnopqrstuvwxyz" : Str) = "told") := by decide +kernel
@[simp] theorem sb_15_36 : (("abcdefghijklmnopqrstuvwxyz" : Str) == "told") = false := by decide +kernel
@[simp] theorem sn_15_37 : ¬ (("abcdefghijklmnopqrstuvwxyz" : Str) = "truth") := by decide +kernel
@[simp] theorem sb_15_37 : (("abcdefghijklmnopqrstuvwxyz" : Str) == "truth") = false := by decide +kernel
@[simp] theorem sn_15_38 : ¬ (("abcdefghijklmnopqrstuvwxyz" : Str) = "try") := by decide +kernel
@[simp] theorem sb_15_38 : (("abcdefghijklmnopqrstuvwxyz" : Str) == "try") = false := by decide +kernel
@[simp] theorem sn_16_0 : ¬ (("call" : Str) = "") := by decide +kernel
@[simp] theorem sb_16_0 : (("call" : Str) == "") = false := by decide +kernel
@[simp] theorem sn_16_1 : ¬ (("call" : Str) = "+-*/<=") := by decide +kernel
@[simp] theorem sb_16_1 : (("call" : Str) == "+-*/<=") = false := by decide +kernel
@[simp] theorem sn_16_2 : ¬ (("call" : Str) = "0") := by decide +kernel
@[simp] theorem sb_16_2 : (("call" : Str) == "0") = false := by decide +kernel
@[simp] theorem sn_16_3 : ¬ (("call" : Str) = "0123456789") := by decide +kernel
@[simp] theorem sb_16_3 : (("call" : Str) == "0123456789") = false := by decide +kernel
@[simp] theorem sn_16_4 : ¬ (("call" : Str) = "1") := by decide +kernel
@[simp] theorem sb_16_4 : (("call" : Str) == "1") = false := by decide +kernel
@[simp] theorem sn_16_5 : ¬ (("call" : Str) = "10") := by decide +kernel
@[simp] theorem sb_16_5 : (("call" : Str) == "10") = false := by decide +kernel
@[simp] theorem sn_16_6 : ¬ (("call" : Str) = "100") := by decide +kernel
@[simp] theorem sb_16_6 : (("call" : Str) == "100") = false := by decide +kernel
@[simp] theorem sn_16_7 : ¬ (("call" : Str) = "11") := by decide +kernel
@[simp] theorem sb_16_7 : (("call" : Str) == "11") = false := by decide +kernel
@[simp] theorem sn_16_8 : ¬ (("call" : Str) = "12") := by decide +kernel
@[simp] theorem sb_16_8 : (("call" : Str) == "12") = false := by decide +kernel
@[simp] theorem sn_16_9 : ¬ (("call" : Str) = "2") := by decide +kernel
@[simp] theorem sb_16_9 : (("call" : Str) == "2") = false := by decide +kernel
@[simp] theorem sn_16_10 : ¬ (("call" : Str) = "20") := by decide +kernel
@[simp] theorem sb_16_10 : (("call" : Str) == "20") = false := by decide +kernel
@[simp] theorem sn_16_11 : ¬ (("call" : Str) = "21") := by decide +kernel
@[simp] theorem sb_16_11 : (("call" : Str) == "21") = false := by decide +kernel
@[simp] theorem sn_16_12 : ¬ (("call" : Str) = "3") := by decide +kernel
@[simp] theorem sb_16_12 : (("call" : Str) == "3") = false := by decide +kernel
@[simp] theorem sn_16_13 : ¬ (("call" : Str) = "9") := by decide +kernel
@[simp] theorem sb_16_13 : (("call" : Str) == "9") = false := by decide +kernel
@[simp] theorem sn_16_14 : ¬ (("call" : Str) = "999") := by decide +kernel
@[simp] theorem sb_16_14 : (("call" : Str) == "999") = false := by decide +kernel
@[simp] theorem sn_16_15 : ¬ (("call" : Str) = "abcdefghijklmnopqrstuvwxyz") := by decide +kernel
@[simp] theorem sb_16_15 : (("call" : Str) == "abcdefghijklmnopqrstuvwxyz") = false := by decide +kernel
@[simp] theorem sn_16_17 : ¬ (("call" : Str) = "do") := by decide +kernel
@[simp] theorem sb_16_17 : (("call" : Str) == "do") = false := by decide +kernel
@[simp] theorem sn_16_18 : ¬ (("call" : Str) = "dry") := by decide +kernel
@[simp] theorem sb_16_18 : (("call" : Str) == "dry") = false := by decide +kernel
@[simp] theorem sn_16_19 : ¬ (("call" : Str) = "far") := by decide +kernel
@[simp] theorem sb_16_19 : (("call" : Str) == "far") = false := by decide +kernel
@[simp] theorem sn_16_20 : ¬ (("call" : Str) = "if") := by decide +kernel
@[simp] theorem sb_16_20 : (("call" : Str) == "if") = false := by decide +kernel
@[simp] theorem sn_16_21 : ¬ (("call" : Str) = "kind") := by decide +kernel
@[simp] theorem sb_16_21 : (("call" : Str) == "kind") = false := by decide +kernel
@[simp] theorem sn_16_22 : ¬ (("call" : Str) = "lack") := by decide +kernel
@[simp] theorem sb_16_22 : (("call" : Str) == "lack") = false := by decide +kernel
@[simp] theorem sn_16_23 : ¬ (("call" : Str) = "let") := by decide +kernel
@[simp] theorem sb_16_23 : (("call" : Str) == "let") = false := by decide +kernel
@[simp] theorem sn_16_24 : ¬ (("call" : Str) = "loop") := by decide +kernel
@[simp] theorem sb_16_24 : (("call" : Str) == "loop") = false := by decide +kernel
@[simp] theorem sn_16_25 : ¬ (("call" : Str) = "many") := by decide +kernel
@[simp] theorem sb_16_25 : (("call" : Str) == "many") = false := by decide +kernel
@[simp] theorem sn_16_26 : ¬ (("call" : Str) = "mark") := by decide +kernel
@[simp] theorem sb_16_26 : (("call" : Str) == "mark") = false := by decide +kernel
@[simp] theorem sn_16_27 : ¬ (("call" : Str) = "melt") := by decide +kernel
@[simp] theorem sb_16_27 : (("call" : Str) == "melt") = false := by decide +kernel
@[simp] theorem sn_16_28 : ¬ (("call" : Str) = "name") := by decide +kernel
@[simp] theorem sb_16_28 : (("call" : Str) == "name") = false := by decide +kernel
@[simp] theorem sn_16_29 : ¬ (("call" : Str) = "nought") := by decide +kernel
@[simp] theorem sb_16_29 : (("call" : Str) == "nought") = false := by decide +kernel
@[simp] theorem sn_16_30 : ¬ (("call" : Str) = "number") := by decide +kernel
@[simp] theorem sb_16_30 : (("call" : Str) == "number") = false := by decide +kernel
@[simp] theorem sn_16_31 : ¬ (("call" : Str) = "parts") := by decide +kernel
@[simp] theorem sb_16_31 : (("call" : Str) == "parts") = false := by decide +kernel
@[simp] theorem sn_16_32 : ¬ (("call" : Str) = "pick") := by decide +kernel
@[simp] theorem sb_16_32 : (("call" : Str) == "pick") = false := by decide +kernel
@[simp] theorem sn_16_33 : ¬ (("call" : Str) = "raise") := by decide +kernel
@[simp] theorem sb_16_33 : (("call" : Str) == "raise") = false := by decide +kernel
@[simp] theorem sn_16_34 : ¬ (("call" : Str) = "refused") := by decide +kernel
@[simp] theorem sb_16_34 : (("call" : Str) == "refused") = false := by decide +kernel
@[simp] theorem sn_16_35 : ¬ (("call" : Str) = "root") := by decide +kernel
@[simp] theorem sb_16_35 : (("call" : Str) == "root") = false := by decide +kernel
@[simp] theorem sn_16_36 : ¬ (("call" : Str) = "told") := by decide +kernel
@[simp] theorem sb_16_36 : (("call" : Str) == "told") = false := by decide +kernel
@[simp] theorem sn_16_37 : ¬ (("call" : Str) = "truth") := by decide +kernel
@[simp] theorem sb_16_37 : (("call" : Str) == "truth") = false := by decide +kernel
@[simp] theorem sn_16_38 : ¬ (("call" : Str) = "try") := by decide +kernel
@[simp] theorem sb_16_38 : (("call" : Str) == "try") = false := by decide +kernel
@[simp] theorem sn_17_0 : ¬ (("do" : Str) = "") := by decide +kernel
@[simp] theorem sb_17_0 : (("do" : Str) == "") = false := by decide +kernel
@[simp] theorem sn_17_1 : ¬ (("do" : Str) = "+-*/<=") := by decide +kernel
@[simp] theorem sb_17_1 : (("do" : Str) == "+-*/<=") = false := by decide +kernel
@[simp] theorem sn_17_2 : ¬ (("do" : Str) = "0") := by decide +kernel
@[simp] theorem sb_17_2 : (("do" : Str) == "0") = false := by decide +kernel
@[simp] theorem sn_17_3 : ¬ (("do" : Str) = "0123456789") := by decide +kernel
@[simp] theorem sb_17_3 : (("do" : Str) == "0123456789") = false := by decide +kernel
@[simp] theorem sn_17_4 : ¬ (("do" : Str) = "1") := by decide +kernel
@[simp] theorem sb_17_4 : (("do" : Str) == "1") = false := by decide +kernel
@[simp] theorem sn_17_5 : ¬ (("do" : Str) = "10") := by decide +kernel
@[simp] theorem sb_17_5 : (("do" : Str) == "10") = false := by decide +kernel
@[simp] theorem sn_17_6 : ¬ (("do" : Str) = "100") := by decide +kernel
@[simp] theorem sb_17_6 : (("do" : Str) == "100") = false := by decide +kernel
@[simp] theorem sn_17_7 : ¬ (("do" : Str) = "11") := by decide +kernel
@[simp] theorem sb_17_7 : (("do" : Str) == "11") = false := by decide +kernel
@[simp] theorem sn_17_8 : ¬ (("do" : Str) = "12") := by decide +kernel
@[simp] theorem sb_17_8 : (("do" : Str) == "12") = false := by decide +kernel
@[simp] theorem sn_17_9 : ¬ (("do" : Str) = "2") := by decide +kernel
@[simp] theorem sb_17_9 : (("do" : Str) == "2") = false := by decide +kernel
@[simp] theorem sn_17_10 : ¬ (("do" : Str) = "20") := by decide +kernel
@[simp] theorem sb_17_10 : (("do" : Str) == "20") = false := by decide +kernel
@[simp] theorem sn_17_11 : ¬ (("do" : Str) = "21") := by decide +kernel
@[simp] theorem sb_17_11 : (("do" : Str) == "21") = false := by decide +kernel
@[simp] theorem sn_17_12 : ¬ (("do" : Str) = "3") := by decide +kernel
@[simp] theorem sb_17_12 : (("do" : Str) == "3") = false := by decide +kernel
@[simp] theorem sn_17_13 : ¬ (("do" : Str) = "9") := by decide +kernel
@[simp] theorem sb_17_13 : (("do" : Str) == "9") = false := by decide +kernel
@[simp] theorem sn_17_14 : ¬ (("do" : Str) = "999") := by decide +kernel
@[simp] theorem sb_17_14 : (("do" : Str) == "999") = false := by decide +kernel
@[simp] theorem sn_17_15 : ¬ (("do" : Str) = "abcdefghijklmnopqrstuvwxyz") := by decide +kernel
@[simp] theorem sb_17_15 : (("do" : Str) == "abcdefghijklmnopqrstuvwxyz") = false := by decide +kernel
@[simp] theorem sn_17_16 : ¬ (("do" : Str) = "call") := by decide +kernel
@[simp] theorem sb_17_16 : (("do" : Str) == "call") = false := by decide +kernel
@[simp] theorem sn_17_18 : ¬ (("do" : Str) = "dry") := by decide +kernel
@[simp] theorem sb_17_18 : (("do" : Str) == "dry") = false := by decide +kernel
@[simp] theorem sn_17_19 : ¬ (("do" : Str) = "far") := by decide +kernel
@[simp] theorem sb_17_19 : (("do" : Str) == "far") = false := by decide +kernel
@[simp] theorem sn_17_20 : ¬ (("do" : Str) = "if") := by decide +kernel
@[simp] theorem sb_17_20 : (("do" : Str) == "if") = false := by decide +kernel
@[simp] theorem sn_17_21 : ¬ (("do" : Str) = "kind") := by decide +kernel
@[simp] theorem sb_17_21 : (("do" : Str) == "kind") = false := by decide +kernel
@[simp] theorem sn_17_22 : ¬ (("do" : Str) = "lack") := by decide +kernel
@[simp] theorem sb_17_22 : (("do" : Str) == "lack") = false := by decide +kernel
@[simp] theorem sn_17_23 : ¬ (("do" : Str) = "let") := by decide +kernel
@[simp] theorem sb_17_23 : (("do" : Str) == "let") = false := by decide +kernel
@[simp] theorem sn_17_24 : ¬ (("do" : Str) = "loop") := by decide +kernel
@[simp] theorem sb_17_24 : (("do" : Str) == "loop") = false := by decide +kernel
@[simp] theorem sn_17_25 : ¬ (("do" : Str) = "many") := by decide +kernel
@[simp] theorem sb_17_25 : (("do" : Str) == "many") = false := by decide +kernel
@[simp] theorem sn_17_26 : ¬ (("do" : Str) = "mark") := by decide +kernel
@[simp] theorem sb_17_26 : (("do" : Str) == "mark") = false := by decide +kernel
@[simp] theorem sn_17_27 : ¬ (("do" : Str) = "melt") := by decide +kernel
@[simp] theorem sb_17_27 : (("do" : Str) == "melt") = false := by decide +kernel
@[simp] theorem sn_17_28 : ¬ (("do" : Str) = "name") := by decide +kernel
@[simp] theorem sb_17_28 : (("do" : Str) == "name") = false := by decide +kernel
@[simp] theorem sn_17_29 : ¬ (("do" : Str) = "nought") := by decide +kernel
@[simp] theorem sb_17_29 : (("do" : Str) == "nought") = false := by decide +kernel
@[simp] theorem sn_17_30 : ¬ (("do" : Str) = "number") := by decide +kernel
@[simp] theorem sb_17_30 : (("do" : Str) == "number") = false := by decide +kernel
@[simp] theorem sn_17_31 : ¬ (("do" : Str) = "parts") := by decide +kernel
@[simp] theorem sb_17_31 : (("do" : Str) == "parts") = false := by decide +kernel
@[simp] theorem sn_17_32 : ¬ (("do" : Str) = "pick") := by decide +kernel
@[simp] theorem sb_17_32 : (("do" : Str) == "pick") = false := by decide +kernel
@[simp] theorem sn_17_33 : ¬ (("do" : Str) = "raise") := by decide +kernel
@[simp] theorem sb_17_33 : (("do" : Str) == "raise") = false := by decide +kernel
@[simp] theorem sn_17_34 : ¬ (("do" : Str) = "refused") := by decide +kernel
@[simp] theorem sb_17_34 : (("do" : Str) == "refused") = false := by decide +kernel
@[simp] theorem sn_17_35 : ¬ (("do" : Str) = "root") := by decide +kernel
@[simp] theorem sb_17_35 : (("do" : Str) == "root") = false := by decide +kernel
@[simp] theorem sn_17_36 : ¬ (("do" : Str) = "told") := by decide +kernel
@[simp] theorem sb_17_36 : (("do" : Str) == "told") = false := by decide +kernel
@[simp] theorem sn_17_37 : ¬ (("do" : Str) = "truth") := by decide +kernel
@[simp] theorem sb_17_37 : (("do" : Str) == "truth") = false := by decide +kernel
@[simp] theorem sn_17_38 : ¬ (("do" : Str) = "try") := by decide +kernel
@[simp] theorem sb_17_38 : (("do" : Str) == "try") = false := by decide +kernel
@[simp] theorem sn_18_0 : ¬ (("dry" : Str) = "") := by decide +kernel
@[simp] theorem sb_18_0 : (("dry" : Str) == "") = false := by decide +kernel
@[simp] theorem sn_18_1 : ¬ (("dry" : Str) = "+-*/<=") := by decide +kernel
@[simp] theorem sb_18_1 : (("dry" : Str) == "+-*/<=") = false := by decide +kernel
@[simp] theorem sn_18_2 : ¬ (("dry" : Str) = "0") := by decide +kernel
@[simp] theorem sb_18_2 : (("dry" : Str) == "0") = false := by decide +kernel
@[simp] theorem sn_18_3 : ¬ (("dry" : Str) = "0123456789") := by decide +kernel
@[simp] theorem sb_18_3 : (("dry" : Str) == "0123456789") = false := by decide +kernel
@[simp] theorem sn_18_4 : ¬ (("dry" : Str) = "1") := by decide +kernel
@[simp] theorem sb_18_4 : (("dry" : Str) == "1") = false := by decide +kernel
@[simp] theorem sn_18_5 : ¬ (("dry" : Str) = "10") := by decide +kernel
@[simp] theorem sb_18_5 : (("dry" : Str) == "10") = false := by decide +kernel
@[simp] theorem sn_18_6 : ¬ (("dry" : Str) = "100") := by decide +kernel
@[simp] theorem sb_18_6 : (("dry" : Str) == "100") = false := by decide +kernel
@[simp] theorem sn_18_7 : ¬ (("dry" : Str) = "11") := by decide +kernel
@[simp] theorem sb_18_7 : (("dry" : Str) == "11") = false := by decide +kernel
@[simp] theorem sn_18_8 : ¬ (("dry" : Str) = "12") := by decide +kernel
@[simp] theorem sb_18_8 : (("dry" : Str) == "12") = false := by decide +kernel
@[simp] theorem sn_18_9 : ¬ (("dry" : Str) = "2") := by decide +kernel
@[simp] theorem sb_18_9 : (("dry" : Str) == "2") = false := by decide +kernel
@[simp] theorem sn_18_10 : ¬ (("dry" : Str) = "20") := by decide +kernel
@[simp] theorem sb_18_10 : (("dry" : Str) == "20") = false := by decide +kernel
@[simp] theorem sn_18_11 : ¬ (("dry" : Str) = "21") := by decide +kernel
@[simp] theorem sb_18_11 : (("dry" : Str) == "21") = false := by decide +kernel
@[simp] theorem sn_18_12 : ¬ (("dry" : Str) = "3") := by decide +kernel
@[simp] theorem sb_18_12 : (("dry" : Str) == "3") = false := by decide +kernel
@[simp] theorem sn_18_13 : ¬ (("dry" : Str) = "9") := by decide +kernel
@[simp] theorem sb_18_13 : (("dry" : Str) == "9") = false := by decide +kernel
@[simp] theorem sn_18_14 : ¬ (("dry" : Str) = "999") := by decide +kernel
@[simp] theorem sb_18_14 : (("dry" : Str) == "999") = false := by decide +kernel
@[simp] theorem sn_18_15 : ¬ (("dry" : Str) = "abcdefghijklmnopqrstuvwxyz") := by decide +kernel
@[simp] theorem sb_18_15 : (("dry" : Str) == "abcdefghijklmnopqrstuvwxyz") = false := by decide +kernel
@[simp] theorem sn_18_16 : ¬ (("dry" : Str) = "call") := by decide +kernel
@[simp] theorem sb_18_16 : (("dry" : Str) == "call") = false := by decide +kernel
@[simp] theorem sn_18_17 : ¬ (("dry" : Str) = "do") := by decide +kernel
@[simp] theorem sb_18_17 : (("dry" : Str) == "do") = false := by decide +kernel
@[simp] theorem sn_18_19 : ¬ (("dry" : Str) = "far") := by decide +kernel
@[simp] theorem sb_18_19 : (("dry" : Str) == "far") = false := by decide +kernel
@[simp] theorem sn_18_20 : ¬ (("dry" : Str) = "if") := by decide +kernel
@[simp] theorem sb_18_20 : (("dry" : Str) == "if") = false := by decide +kernel
@[simp] theorem sn_18_21 : ¬ (("dry" : Str) = "kind") := by decide +kernel
@[simp] theorem sb_18_21 : (("dry" : Str) == "kind") = false := by decide +kernel
@[simp] theorem sn_18_22 : ¬ (("dry" : Str) = "lack") := by decide +kernel
@[simp] theorem sb_18_22 : (("dry" : Str) == "lack") = false := by decide +kernel
@[simp] theorem sn_18_23 : ¬ (("dry" : Str) = "let") := by decide +kernel
@[simp] theorem sb_18_23 : (("dry" : Str) == "let") = false := by decide +kernel
@[simp] theorem sn_18_24 : ¬ (("dry" : Str) = "loop") := by decide +kernel
@[simp] theorem sb_18_24 : (("dry" : Str) == "loop") = false := by decide +kernel
@[simp] theorem sn_18_25 : ¬ (("dry" : Str) = "many") := by decide +kernel
@[simp] theorem sb_18_25 : (("dry" : Str) == "many") = false := by decide +kernel
@[simp] theorem sn_18_26 : ¬ (("dry" : Str) = "mark") := by decide +kernel
@[simp] theorem sb_18_26 : (("dry" : Str) == "mark") = false := by decide +kernel
@[simp] theorem sn_18_27 : ¬ (("dry" : Str) = "melt") := by decide +kernel
@[simp] theorem sb_18_27 : (("dry" : Str) == "melt") = false := by decide +kernel
@[simp] theorem sn_18_28 : ¬ (("dry" : Str) = "name") := by decide +kernel
@[simp] theorem sb_18_28 : (("dry" : Str) == "name") = false := by decide +kernel
@[simp] theorem sn_18_29 : ¬ (("dry" : Str) = "nought") := by decide +kernel
@[simp] theorem sb_18_29 : (("dry" : Str) == "nought") = false := by decide +kernel
@[simp] theorem sn_18_30 : ¬ (("dry" : Str) = "number") := by decide +kernel
@[simp] theorem sb_18_30 : (("dry" : Str) == "number") = false := by decide +kernel
@[simp] theorem sn_18_31 : ¬ (("dry" : Str) = "parts") := by decide +kernel
@[simp] theorem sb_18_31 : (("dry" : Str) == "parts") = false := by decide +kernel
@[simp] theorem sn_18_32 : ¬ (("dry" : Str) = "pick") := by decide +kernel
@[simp] theorem sb_18_32 : (("dry" : Str) == "pick") = false := by decide +kernel
@[simp] theorem sn_18_33 : ¬ (("dry" : Str) = "raise") := by decide +kernel
@[simp] theorem sb_18_33 : (("dry" : Str) == "raise") = false := by decide +kernel
@[simp] theorem sn_18_34 : ¬ (("dry" : Str) = "refused") := by decide +kernel
@[simp] theorem sb_18_34 : (("dry" : Str) == "refused") = false := by decide +kernel
@[simp] theorem sn_18_35 : ¬ (("dry" : Str) = "root") := by decide +kernel
@[simp] theorem sb_18_35 : (("dry" : Str) == "root") = false := by decide +kernel
@[simp] theorem sn_18_36 : ¬ (("dry" : Str) = "told") := by decide +kernel
@[simp] theorem sb_18_36 : (("dry" : Str) == "told") = false := by decide +kernel
@[simp] theorem sn_18_37 : ¬ (("dry" : Str) = "truth") := by decide +kernel
@[simp] theorem sb_18_37 : (("dry" : Str) == "truth") = false := by decide +kernel
@[simp] theorem sn_18_38 : ¬ (("dry" : Str) = "try") := by decide +kernel
@[simp] theorem sb_18_38 : (("dry" : Str) == "try") = false := by decide +kernel
@[simp] theorem sn_19_0 : ¬ (("far" : Str) = "") := by decide +kernel
@[simp] theorem sb_19_0 : (("far" : Str) == "") = false := by decide +kernel
@[simp] theorem sn_19_1 : ¬ (("far" : Str) = "+-*/<=") := by decide +kernel
@[simp] theorem sb_19_1 : (("far" : Str) == "+-*/<=") = false := by decide +kernel
@[simp] theorem sn_19_2 : ¬ (("far" : Str) = "0") := by decide +kernel
@[simp] theorem sb_19_2 : (("far" : Str) == "0") = false := by decide +kernel
@[simp] theorem sn_19_3 : ¬ (("far" : Str) = "0123456789") := by decide +kernel
@[simp] theorem sb_19_3 : (("far" : Str) == "0123456789") = false := by decide +kernel
@[simp] theorem sn_19_4 : ¬ (("far" : Str) = "1") := by decide +kernel
@[simp] theorem sb_19_4 : (("far" : Str) == "1") = false := by decide +kernel
@[simp] theorem sn_19_5 : ¬ (("far" : Str) = "10") := by decide +kernel
@[simp] theorem sb_19_5 : (("far" : Str) == "10") = false := by decide +kernel
@[simp] theorem sn_19_6 : ¬ (("far" : Str) = "100") := by decide +kernel
@[simp] theorem sb_19_6 : (("far" : Str) == "100") = false := by decide +kernel
@[simp] theorem sn_19_7 : ¬ (("far" : Str) = "11") := by decide +kernel
@[simp] theorem sb_19_7 : (("far" : Str) == "11") = false := by decide +kernel
@[simp] theorem sn_19_8 : ¬ (("far" : Str) = "12") := by decide +kernel
@[simp] theorem sb_19_8 : (("far" : Str) == "12") = false := by decide +kernel
@[simp] theorem sn_19_9 : ¬ (("far" : Str) = "2") := by decide +kernel
@[simp] theorem sb_19_9 : (("far" : Str) == "2") = false := by decide +kernel
@[simp] theorem sn_19_10 : ¬ (("far" : Str) = "20") := by decide +kernel
@[simp] theorem sb_19_10 : (("far" : Str) == "20") = false := by decide +kernel
@[simp] theorem sn_19_11 : ¬ (("far" : Str) = "21") := by decide +kernel
@[simp] theorem sb_19_11 : (("far" : Str) == "21") = false := by decide +kernel
@[simp] theorem sn_19_12 : ¬ (("far" : Str) = "3") := by decide +kernel
@[simp] theorem sb_19_12 : (("far" : Str) == "3") = false := by decide +kernel
@[simp] theorem sn_19_13 : ¬ (("far" : Str) = "9") := by decide +kernel
@[simp] theorem sb_19_13 : (("far" : Str) == "9") = false := by decide +kernel
@[simp] theorem sn_19_14 : ¬ (("far" : Str) = "999") := by decide +kernel
@[simp] theorem sb_19_14 : (("far" : Str) == "999") = false := by decide +kernel
@[simp] theorem sn_19_15 : ¬ (("far" : Str) = "abcdefghijklmnopqrstuvwxyz") := by decide +kernel
@[simp] theorem sb_19_15 : (("far" : Str) == "abcdefghijklmnopqrstuvwxyz") = false := by decide +kernel
@[simp] theorem sn_19_16 : ¬ (("far" : Str) = "call") := by decide +kernel
@[simp] theorem sb_19_16 : (("far" : Str) == "call") = false := by decide +kernel
@[simp] theorem sn_19_17 : ¬ (("far" : Str) = "do") := by decide +kernel
@[simp] theorem sb_19_17 : (("far" : Str) == "do") = false := by decide +kernel
@[simp] theorem sn_19_18 : ¬ (("far" : Str) = "dry") := by decide +kernel
@[simp] theorem sb_19_18 : (("far" : Str) == "dry") = false := by decide +kernel
@[simp] theorem sn_19_20 : ¬ (("far" : Str) = "if") := by decide +kernel
@[simp] theorem sb_19_20 : (("far" : Str) == "if") = false := by decide +kernel
@[simp] theorem sn_19_21 : ¬ (("far" : Str) = "kind") := by decide +kernel
@[simp] theorem sb_19_21 : (("far" : Str) == "kind") = false := by decide +kernel
@[simp] theorem sn_19_22 : ¬ (("far" : Str) = "lack") := by decide +kernel
@[simp] theorem sb_19_22 : (("far" : Str) == "lack") = false := by decide +kernel
@[simp] theorem sn_19_23 : ¬ (("far" : Str) = "let") := by decide +kernel
@[simp] theorem sb_19_23 : (("far" : Str) == "let") = false := by decide +kernel
@[simp] theorem sn_19_24 : ¬ (("far" : Str) = "loop") := by decide +kernel
@[simp] theorem sb_19_24 : (("far" : Str) == "loop") = false := by decide +kernel
@[simp] theorem sn_19_25 : ¬ (("far" : Str) = "many") := by decide +kernel
@[simp] theorem sb_19_25 : (("far" : Str) == "many") = false := by decide +kernel
@[simp] theorem sn_19_26 : ¬ (("far" : Str) = "mark") := by decide +kernel
@[simp] theorem sb_19_26 : (("far" : Str) == "mark") = false := by decide +kernel
@[simp] theorem sn_19_27 : ¬ (("far" : Str) = "melt") := by decide +kernel
@[simp] theorem sb_19_27 : (("far" : Str) == "melt") = false := by decide +kernel
@[simp] theorem sn_19_28 : ¬ (("far" : Str) = "name") := by decide +kernel
@[simp] theorem sb_19_28 : (("far" : Str) == "name") = false := by decide +kernel
@[simp] theorem sn_19_29 : ¬ (("far" : Str) = "nought") := by decide +kernel
@[simp] theorem sb_19_29 : (("far" : Str) == "nought") = false := by decide +kernel
@[simp] theorem sn_19_30 : ¬ (("far" : Str) = "number") := by decide +kernel
@[simp] theorem sb_19_30 : (("far" : Str) == "number") = false := by decide +kernel
@[simp] theorem sn_19_31 : ¬ (("far" : Str) = "parts") := by decide +kernel
@[simp] theorem sb_19_31 : (("far" : Str) == "parts") = false := by decide +kernel
@[simp] theorem sn_19_32 : ¬ (("far" : Str) = "pick") := by decide +kernel
@[simp] theorem sb_19_32 : (("far" : Str) == "pick") = false := by decide +kernel
@[simp] theorem sn_19_33 : ¬ (("far" : Str) = "raise") := by decide +kernel
@[simp] theorem sb_19_33 : (("far" : Str) == "raise") = false := by decide +kernel
@[simp] theorem sn_19_34 : ¬ (("far" : Str) = "refused") := by decide +kernel
@[simp] theorem sb_19_34 : (("far" : Str) == "refused") = false := by decide +kernel
@[simp] theorem sn_19_35 : ¬ (("far" : Str) = "root") := by decide +kernel
@[simp] theorem sb_19_35 : (("far" : Str) == "root") = false := by decide +kernel
@[simp] theorem sn_19_36 : ¬ (("far" : Str) = "told") := by decide +kernel
@[simp] theorem sb_19_36 : (("far" : Str) == "told") = false := by decide +kernel
@[simp] theorem sn_19_37 : ¬ (("far" : Str) = "truth") := by decide +kernel
@[simp] theorem sb_19_37 : (("far" : Str) == "truth") = false := by decide +kernel
@[simp] theorem sn_19_38 : ¬ (("far" : Str) = "try") := by decide +kernel
@[simp] theorem sb_19_38 : (("far" : Str) == "try") = false := by decide +kernel
@[simp] theorem sn_20_0 : ¬ (("if" : Str) = "") := by decide +kernel
@[simp] theorem sb_20_0 : (("if" : Str) == "") = false := by decide +kernel
@[simp] theorem sn_20_1 : ¬ (("if" : Str) = "+-*/<=") := by decide +kernel
@[simp] theorem sb_20_1 : (("if" : Str) == "+-*/<=") = false := by decide +kernel
@[simp] theorem sn_20_2 : ¬ (("if" : Str) = "0") := by decide +kernel
@[simp] theorem sb_20_2 : (("if" : Str) == "0") = false := by decide +kernel
@[simp] theorem sn_20_3 : ¬ (("if" : Str) = "0123456789") := by decide +kernel
@[simp] theorem sb_20_3 : (("if" : Str) == "0123456789") = false := by decide +kernel
@[simp] theorem sn_20_4 : ¬ (("if" : Str) = "1") := by decide +kernel
@[simp] theorem sb_20_4 : (("if" : Str) == "1") = false := by decide +kernel
@[simp] theorem sn_20_5 : ¬ (("if" : Str) = "10") := by decide +kernel
@[simp] theorem sb_20_5 : (("if" : Str) == "10") = false := by decide +kernel
@[simp] theorem sn_20_6 : ¬ (("if" : Str) = "100") := by decide +kernel
@[simp] theorem sb_20_6 : (("if" : Str) == "100") = false := by decide +kernel
@[simp] theorem sn_20_7 : ¬ (("if" : Str) = "11") := by decide +kernel
@[simp] theorem sb_20_7 : (("if" : Str) == "11") = false := by decide +kernel
@[simp] theorem sn_20_8 : ¬ (("if" : Str) = "12") := by decide +kernel
@[simp] theorem sb_20_8 : (("if" : Str) == "12") = false := by decide +kernel
@[simp] theorem sn_20_9 : ¬ (("if" : Str) = "2") := by decide +kernel
@[simp] theorem sb_20_9 : (("if" : Str) == "2") = false := by decide +kernel
@[simp] theorem sn_20_10 : ¬ (("if" : Str) = "20") := by decide +kernel
@[simp] theorem sb_20_10 : (("if" : Str) == "20") = false := by decide +kernel
@[simp] theorem sn_20_11 : ¬ (("if" : Str) = "21") := by decide +kernel
@[simp] theorem sb_20_11 : (("if" : Str) == "21") = false := by decide +kernel
@[simp] theorem sn_20_12 : ¬ (("if" : Str) = "3") := by decide +kernel
@[simp] theorem sb_20_12 : (("if" : Str) == "3") = false := by decide +kernel
@[simp] theorem sn_20_13 : ¬ (("if" : Str) = "9") := by decide +kernel
@[simp] theorem sb_20_13 : (("if" : Str) == "9") = false := by decide +kernel
@[simp] theorem sn_20_14 : ¬ (("if" : Str) = "999") := by decide +kernel
@[simp] theorem sb_20_14 : (("if" : Str) == "999") = false := by decide +kernel
@[simp] theorem sn_20_15 : ¬ (("if" : Str) = "abcdefghijklmnopqrstuvwxyz") := by decide +kernel
@[simp] theorem sb_20_15 : (("if" : Str) == "abcdefghijklmnopqrstuvwxyz") = false := by decide +kernel
@[simp] theorem sn_20_16 : ¬ (("if" : Str) = "call") := by decide +kernel
@[simp] theorem sb_20_16 : (("if" : Str) == "call") = false := by decide +kernel
@[simp] theorem sn_20_17 : ¬ (("if" : Str) = "do") := by decide +kernel
@[simp] theorem sb_20_17 : (("if" : Str) == "do") = false := by decide +kernel
@[simp] theorem sn_20_18 : ¬ (("if" : Str) = "dry") := by decide +kernel
@[simp] theorem sb_20_18 : (("if" : Str) == "dry") = false := by decide +kernel
@[simp] theorem sn_20_19 : ¬ (("if" : Str) = "far") := by decide +kernel
@[simp] theorem sb_20_19 : (("if" : Str) == "far") = false := by decide +kernel
@[simp] theorem sn_20_21 : ¬ (("if" : Str) = "kind") := by decide +kernel
@[simp] theorem sb_20_21 : (("if" : Str) == "kind") = false := by decide +kernel
@[simp] theorem sn_20_22 : ¬ (("if" : Str) = "lack") := by decide +kernel
@[simp] theorem sb_20_22 : (("if" : Str) == "lack") = false := by decide +kernel
@[simp] theorem sn_20_23 : ¬ (("if" : Str) = "let") := by decide +kernel
@[simp] theorem sb_20_23 : (("if" : Str) == "let") = false := by decide +kernel
@[simp] theorem sn_20_24 : ¬ (("if" : Str) = "loop") := by decide +kernel
@[simp] theorem sb_20_24 : (("if" : Str) == "loop") = false := by decide +kernel
@[simp] theorem sn_20_25 : ¬ (("if" : Str) = "many") := by decide +kernel
@[simp] theorem sb_20_25 : (("if" : Str) == "many") = false := by decide +kernel
@[simp] theorem sn_20_26 : ¬ (("if" : Str) = "mark") := by decide +kernel
@[simp] theorem sb_20_26 : (("if" : Str) == "mark") = false := by decide +kernel
@[simp] theorem sn_20_27 : ¬ (("if" : Str) = "melt") := by decide +kernel
@[simp] theorem sb_20_27 : (("if" : Str) == "melt") = false := by decide +kernel
@[simp] theorem sn_20_28 : ¬ (("if" : Str) = "name") := by decide +kernel
@[simp] theorem sb_20_28 : (("if" : Str) == "name") = false := by decide +kernel
@[simp] theorem sn_20_29 : ¬ (("if" : Str) = "nought") := by decide +kernel
@[simp] theorem sb_20_29 : (("if" : Str) == "nought") = false := by decide +kernel
@[simp] theorem sn_20_30 : ¬ (("if" : Str) = "number") := by decide +kernel
@[simp] theorem sb_20_30 : (("if" : Str) == "number") = false := by decide +kernel
@[simp] theorem sn_20_31 : ¬ (("if" : Str) = "parts") := by decide +kernel
@[simp] theorem sb_20_31 : (("if" : Str) == "parts") = false := by decide +kernel
@[simp] theorem sn_20_32 : ¬ (("if" : Str) = "pick") := by decide +kernel
@[simp] theorem sb_20_32 : (("if" : Str) == "pick") = false := by decide +kernel
@[simp] theorem sn_20_33 : ¬ (("if" : Str) = "raise") := by decide +kernel
@[simp] theorem sb_20_33 : (("if" : Str) == "raise") = false := by decide +kernel
@[simp] theorem sn_20_34 : ¬ (("if" : Str) = "refused") := by decide +kernel
@[simp] theorem sb_20_34 : (("if" : Str) == "refused") = false := by decide +kernel
@[simp] theorem sn_20_35 : ¬ (("if" : Str) = "root") := by decide +kernel
@[simp] theorem sb_20_35 : (("if" : Str) == "root") = false := by decide +kernel
@[simp] theorem sn_20_36 : ¬ (("if" : Str) = "told") := by decide +kernel
@[simp] theorem sb_20_36 : (("if" : Str) == "told") = false := by decide +kernel
@[simp] theorem sn_20_37 : ¬ (("if" : Str) = "truth") := by decide +kernel
@[simp] theorem sb_20_37 : (("if" : Str) == "truth") = false := by decide +kernel
@[simp] theorem sn_20_38 : ¬ (("if" : Str) = "try") := by decide +kernel
@[simp] theorem sb_20_38 : (("if" : Str) == "try") = false := by decide +kernel
@[simp] theorem sn_21_0 : ¬ (("kind" : Str) = "") := by decide +kernel
@[simp] theorem sb_21_0 : (("kind" : Str) == "") = false := by decide +kernel
@[simp] theorem sn_21_1 : ¬ (("kind" : Str) = "+-*/<=") := by decide +kernel
@[simp] theorem sb_21_1 : (("kind" : Str) == "+-*/<=") = false := by decide +kernel
@[simp] theorem sn_21_2 : ¬ (("kind" : Str) = "0") := by decide +kernel
@[simp] theorem sb_21_2 : (("kind" : Str) == "0") = false := by decide +kernel
@[simp] theorem sn_21_3 : ¬ (("kind" : Str) = "0123456789") := by decide +kernel
@[simp] theorem sb_21_3 : (("kind" : Str) == "0123456789") = false := by decide +kernel
@[simp] theorem sn_21_4 : ¬ (("kind" : Str) = "1") := by decide +kernel
@[simp] theorem sb_21_4 : (("kind" : Str) == "1") = false := by decide +kernel
@[simp] theorem sn_21_5 : ¬ (("kind" : Str) = "10") := by decide +kernel
@[simp] theorem sb_21_5 : (("kind" : Str) == "10") = false := by decide +kernel
@[simp] theorem sn_21_6 : ¬ (("kind" : Str) = "100") := by decide +kernel
@[simp] theorem sb_21_6 : (("kind" : Str) == "100") = false := by decide +kernel
@[simp] theorem sn_21_7 : ¬ (("kind" : Str) = "11") := by decide +kernel
@[simp] theorem sb_21_7 : (("kind" : Str) == "11") = false := by decide +kernel
@[simp] theorem sn_21_8 : ¬ (("kind" : Str) = "12") := by decide +kernel
@[simp] theorem sb_21_8 : (("kind" : Str) == "12") = false := by decide +kernel
@[simp] theorem sn_21_9 : ¬ (("kind" : Str) = "2") := by decide +kernel
@[simp] theorem sb_21_9 : (("kind" : Str) == "2") = false := by decide +kernel
@[simp] theorem sn_21_10 : ¬ (("kind" : Str) = "20") := by decide +kernel
@[simp] theorem sb_21_10 : (("kind" : Str) == "20") = false := by decide +kernel
@[simp] theorem sn_21_11 : ¬ (("kind" : Str) = "21") := by decide +kernel
@[simp] theorem sb_21_11 : (("kind" : Str) == "21") = false := by decide +kernel
@[simp] theorem sn_21_12 : ¬ (("kind" : Str) = "3") := by decide +kernel
@[simp] theorem sb_21_12 : (("kind" : Str) == "3") = false := by decide +kernel
@[simp] theorem sn_21_13 : ¬ (("kind" : Str) = "9") := by decide +kernel
@[simp] theorem sb_21_13 : (("kind" : Str) == "9") = false := by decide +kernel
@[simp] theorem sn_21_14 : ¬ (("kind" : Str) = "999") := by decide +kernel
@[simp] theorem sb_21_14 : (("kind" : Str) == "999") = false := by decide +kernel
@[simp] theorem sn_21_15 : ¬ (("kind" : Str) = "abcdefghijklmnopqrstuvwxyz") := by decide +kernel
@[simp] theorem sb_21_15 : (("kind" : Str) == "abcdefghijklmnopqrstuvwxyz") = false := by decide +kernel
@[simp] theorem sn_21_16 : ¬ (("kind" : Str) = "call") := by decide +kernel
@[simp] theorem sb_21_16 : (("kind" : Str) == "call") = false := by decide +kernel
@[simp] theorem sn_21_17 : ¬ (("kind" : Str) = "do") := by decide +kernel
@[simp] theorem sb_21_17 : (("kind" : Str) == "do") = false := by decide +kernel
@[simp] theorem sn_21_18 : ¬ (("kind" : Str) = "dry") := by decide +kernel
@[simp] theorem sb_21_18 : (("kind" : Str) == "dry") = false := by decide +kernel
@[simp] theorem sn_21_19 : ¬ (("kind" : Str) = "far") := by decide +kernel
@[simp] theorem sb_21_19 : (("kind" : Str) == "far") = false := by decide +kernel
@[simp] theorem sn_21_20 : ¬ (("kind" : Str) = "if") := by decide +kernel
@[simp] theorem sb_21_20 : (("kind" : Str) == "if") = false := by decide +kernel
@[simp] theorem sn_21_22 : ¬ (("kind" : Str) = "lack") := by decide +kernel
@[simp] theorem sb_21_22 : (("kind" : Str) == "lack") = false := by decide +kernel
@[simp] theorem sn_21_23 : ¬ (("kind" : Str) = "let") := by decide +kernel
@[simp] theorem sb_21_23 : (("kind" : Str) == "let") = false := by decide +kernel
@[simp] theorem sn_21_24 : ¬ (("kind" : Str) = "loop") := by decide +kernel
@[simp] theorem sb_21_24 : (("kind" : Str) == "loop") = false := by decide +kernel
@[simp] theorem sn_21_25 : ¬ (("kind" : Str) = "many") := by decide +kernel
@[simp] theorem sb_21_25 : (("kind" : Str) == "many") = false := by decide +kernel
@[simp] theorem sn_21_26 : ¬ (("kind" : Str) = "mark") := by decide +kernel
@[simp] theorem sb_21_26 : (("kind" : Str) == "mark") = false := by decide +kernel
@[simp] theorem sn_21_27 : ¬ (("kind" : Str) = "melt") := by decide +kernel
@[simp] theorem sb_21_27 : (("kind" : Str) == "melt") = false := by decide +kernel
@[simp] theorem sn_21_28 : ¬ (("kind" : Str) = "name") := by decide +kernel
@[simp] theorem sb_21_28 : (("kind" : Str) == "name") = false := by decide +kernel
@[simp] theorem sn_21_29 : ¬ (("kind" : Str) = "nought") := by decide +kernel
@[simp] theorem sb_21_29 : (("kind" : Str) == "nought") = false := by decide +kernel
@[simp] theorem sn_21_30 : ¬ (("kind" : Str) = "number") := by decide +kernel
@[simp] theorem sb_21_30 : (("kind" : Str) == "number") = false := by decide +kernel
@[simp] theorem sn_21_31 : ¬ (("kind" : Str) = "parts") := by decide +kernel
@[simp] theorem sb_21_31 : (("kind" : Str) == "parts") = false := by decide +kernel
@[simp] theorem sn_21_32 : ¬ (("kind" : Str) = "pick") := by decide +kernel
@[simp] theorem sb_21_32 : (("kind" : Str) == "pick") = false := by decide +kernel
@[simp] theorem sn_21_33 : ¬ (("kind" : Str) = "raise") := by decide +kernel
@[simp] theorem sb_21_33 : (("kind" : Str) == "raise") = false := by decide +kernel
@[simp] theorem sn_21_34 : ¬ (("kind" : Str) = "refused") := by decide +kernel
@[simp] theorem sb_21_34 : (("kind" : Str) == "refused") = false := by decide +kernel
@[simp] theorem sn_21_35 : ¬ (("kind" : Str) = "root") := by decide +kernel
@[simp] theorem sb_21_35 : (("kind" : Str) == "root") = false := by decide +kernel
@[simp] theorem sn_21_36 : ¬ (("kind" : Str) = "told") := by decide +kernel
@[simp] theorem sb_21_36 : (("kind" : Str) == "told") = false := by decide +kernel
@[simp] theorem sn_21_37 : ¬ (("kind" : Str) = "truth") := by decide +kernel
@[simp] theorem sb_21_37 : (("kind" : Str) == "truth") = false := by decide +kernel
@[simp] theorem sn_21_38 : ¬ (("kind" : Str) = "try") := by decide +kernel
@[simp] theorem sb_21_38 : (("kind" : Str) == "try") = false := by decide +kernel
@[simp] theorem sn_22_0 : ¬ (("lack" : Str) = "") := by decide +kernel
@[simp] theorem sb_22_0 : (("lack" : Str) == "") = false := by decide +kernel
@[simp] theorem sn_22_1 : ¬ (("lack" : Str) = "+-*/<=") := by decide +kernel
@[simp] theorem sb_22_1 : (("lack" : Str) == "+-*/<=") = false := by decide +kernel
@[simp] theorem sn_22_2 : ¬ (("lack" : Str) = "0") := by decide +kernel
@[simp] theorem sb_22_2 : (("lack" : Str) == "0") = false := by decide +kernel
@[simp] theorem sn_22_3 : ¬ (("lack" : Str) = "0123456789") := by decide +kernel
@[simp] theorem sb_22_3 : (("lack" : Str) == "0123456789") = false := by decide +kernel
@[simp] theorem sn_22_4 : ¬ (("lack" : Str) = "1") := by decide +kernel
@[simp] theorem sb_22_4 : (("lack" : Str) == "1") = false := by decide +kernel
@[simp] theorem sn_22_5 : ¬ (("lack" : Str) = "10") := by decide +kernel
@[simp] theorem sb_22_5 : (("lack" : Str) == "10") = false := by decide +kernel
@[simp] theorem sn_22_6 : ¬ (("lack" : Str) = "100") := by decide +kernel
@[simp] theorem sb_22_6 : (("lack" : Str) == "100") = false := by decide +kernel
@[simp] theorem sn_22_7 : ¬ (("lack" : Str) = "11") := by decide +kernel
@[simp] theorem sb_22_7 : (("lack" : Str) == "11") = false := by decide +kernel
@[simp] theorem sn_22_8 : ¬ (("lack" : Str) = "12") := by decide +kernel
@[simp] theorem sb_22_8 : (("lack" : Str) == "12") = false := by decide +kernel
@[simp] theorem sn_22_9 : ¬ (("lack" : Str) = "2") := by decide +kernel
@[simp] theorem sb_22_9 : (("lack" : Str) == "2") = false := by decide +kernel
@[simp] theorem sn_22_10 : ¬ (("lack" : Str) = "20") := by decide +kernel
@[simp] theorem sb_22_10 : (("lack" : Str) == "20") = false := by decide +kernel
@[simp] theorem sn_22_11 : ¬ (("lack" : Str) = "21") := by decide +kernel
@[simp] theorem sb_22_11 : (("lack" : Str) == "21") = false := by decide +kernel
@[simp] theorem sn_22_12 : ¬ (("lack" : Str) = "3") := by decide +kernel
@[simp] theorem sb_22_12 : (("lack" : Str) == "3") = false := by decide +kernel
@[simp] theorem sn_22_13 : ¬ (("lack" : Str) = "9") := by decide +kernel
@[simp] theorem sb_22_13 : (("lack" : Str) == "9") = false := by decide +kernel
@[simp] theorem sn_22_14 : ¬ (("lack" : Str) = "999") := by decide +kernel
@[simp] theorem sb_22_14 : (("lack" : Str) == "999") = false := by decide +kernel
@[simp] theorem sn_22_15 : ¬ (("lack" : Str) = "abcdefghijklmnopqrstuvwxyz") := by decide +kernel
@[simp] theorem sb_22_15 : (("lack" : Str) == "abcdefghijklmnopqrstuvwxyz") = false := by decide +kernel
@[simp] theorem sn_22_16 : ¬ (("lack" : Str) = "call") := by decide +kernel
@[simp] theorem sb_22_16 : (("lack" : Str) == "call") = false := by decide +kernel
@[simp] theorem sn_22_17 : ¬ (("lack" : Str) = "do") := by decide +kernel
@[simp] theorem sb_22_17 : (("lack" : Str) == "do") = false := by decide +kernel
@[simp] theorem sn_22_18 : ¬ (("lack" : Str) = "dry") := by decide +kernel
@[simp] theorem sb_22_18 : (("lack" : Str) == "dry") = false := by decide +kernel
@[simp] theorem sn_22_19 : ¬ (("lack" : Str) = "far") := by decide +kernel
@[simp] theorem sb_22_19 : (("lack" : Str) == "far") = false := by decide +kernel
@[simp] theorem sn_22_20 : ¬ (("lack" : Str) = "if") := by decide +kernel
@[simp] theorem sb_22_20 : (("lack" : Str) == "if") = false := by decide +kernel
@[simp] theorem sn_22_21 : ¬ (("lack" : Str) = "kind") := by decide +kernel
@[simp] theorem sb_22_21 : (("lack" : Str) == "kind") = false := by decide +kernel
@[simp] theorem sn_22_23 : ¬ (("lack" : Str) = "let") := by decide +kernel
@[simp] theorem sb_22_23 : (("lack" : Str) == "let") = false := by decide +kernel
@[simp] theorem sn_22_24 : ¬ (("lack" : Str) = "loop") := by decide +kernel
@[simp] theorem sb_22_24 : (("lack" : Str) == "loop") = false := by decide +kernel
@[simp] theorem sn_22_25 : ¬ (("lack" : Str) = "many") := by decide +kernel
@[simp] theorem sb_22_25 : (("lack" : Str) == "many") = false := by decide +kernel
@[simp] theorem sn_22_26 : ¬ (("lack" : Str) = "mark") := by decide +kernel
@[simp] theorem sb_22_26 : (("lack" : Str) == "mark") = false := by decide +kernel
@[simp] theorem sn_22_27 : ¬ (("lack" : Str) = "melt") := by decide +kernel
@[simp] theorem sb_22_27 : (("lack" : Str) == "melt") = false := by decide +kernel
@[simp] theorem sn_22_28 : ¬ (("lack" : Str) = "name") := by decide +kernel
@[simp] theorem sb_22_28 : (("lack" : Str) == "name") = false := by decide +kernel
@[simp] theorem sn_22_29 : ¬ (("lack" : Str) = "nought") := by decide +kernel
@[simp] theorem sb_22_29 : (("lack" : Str) == "nought") = false := by decide +kernel
@[simp] theorem sn_22_30 : ¬ (("lack" : Str) = "number") := by decide +kernel
@[simp] theorem sb_22_30 : (("lack" : Str) == "number") = false := by decide +kernel
@[simp] theorem sn_22_31 : ¬ (("lack" : Str) = "parts") := by decide +kernel
@[simp] theorem sb_22_31 : (("lack" : Str) == "parts") = false := by decide +kernel
@[simp] theorem sn_22_32 : ¬ (("lack" : Str) = "pick") := by decide +kernel
@[simp] theorem sb_22_32 : (("lack" : Str) == "pick") = false := by decide +kernel
@[simp] theorem sn_22_33 : ¬ (("lack" : Str) = "raise") := by decide +kernel
@[simp] theorem sb_22_33 : (("lack" : Str) == "raise") = false := by decide +kernel
@[simp] theorem sn_22_34 : ¬ (("lack" : Str) = "refused") := by decide +kernel
@[simp] theorem sb_22_34 : (("lack" : Str) == "refused") = false := by decide +kernel
@[simp] theorem sn_22_35 : ¬ (("lack" : Str) = "root") := by decide +kernel
@[simp] theorem sb_22_35 : (("lack" : Str) == "root") = false := by decide +kernel
@[simp] theorem sn_22_36 : ¬ (("lack" : Str) = "told") := by decide +kernel
@[simp] theorem sb_22_36 : (("lack" : Str) == "told") = false := by decide +kernel
@[simp] theorem sn_22_37 : ¬ (("lack" : Str) = "truth") := by decide +kernel
@[simp] theorem sb_22_37 : (("lack" : Str) == "truth") = false := by decide +kernel
@[simp] theorem sn_22_38 : ¬ (("lack" : Str) = "try") := by decide +kernel
@[simp] theorem sb_22_38 : (("lack" : Str) == "try") = false := by decide +kernel
@[simp] theorem sn_23_0 : ¬ (("let" : Str) = "") := by decide +kernel
@[simp] theorem sb_23_0 : (("let" : Str) == "") = false := by decide +kernel
@[simp] theorem sn_23_1 : ¬ (("let" : Str) = "+-*/<=") := by decide +kernel
@[simp] theorem sb_23_1 : (("let" : Str) == "+-*/<=") = false := by decide +kernel
@[simp] theorem sn_23_2 : ¬ (("let" : Str) = "0") := by decide +kernel
@[simp] theorem sb_23_2 : (("let" : Str) == "0") = false := by decide +kernel
@[simp] theorem sn_23_3 : ¬ (("let" : Str) = "0123456789") := by decide +kernel
@[simp] theorem sb_23_3 : (("let" : Str) == "0123456789") = false := by decide +kernel
@[simp] theorem sn_23_4 : ¬ (("let" : Str) = "1") := by decide +kernel
@[simp] theorem sb_23_4 : (("let" : Str) == "1") = false := by decide +kernel
@[simp] theorem sn_23_5 : ¬ (("let" : Str) = "10") := by decide +kernel
@[simp] theorem sb_23_5 : (("let" : Str) == "10") = false := by decide +kernel
@[simp] theorem sn_23_6 : ¬ (("let" : Str) = "100") := by decide +kernel
@[simp] theorem sb_23_6 : (("let" : Str) == "100") = false := by decide +kernel
@[simp] theorem sn_23_7 : ¬ (("let" : Str) = "11") := by decide +kernel
@[simp] theorem sb_23_7 : (("let" : Str) == "11") = false := by decide +kernel
@[simp] theorem sn_23_8 : ¬ (("let" : Str) = "12") := by decide +kernel
@[simp] theorem sb_23_8 : (("let" : Str) == "12") = false := by decide +kernel
@[simp] theorem sn_23_9 : ¬ (("let" : Str) = "2") := by decide +kernel
@[simp] theorem sb_23_9 : (("let" : Str) == "2") = false := by decide +kernel
@[simp] theorem sn_23_10 : ¬ (("let" : Str) = "20") := by decide +kernel
@[simp] theorem sb_23_10 : (("let" : Str) == "20") = false := by decide +kernel
@[simp] theorem sn_23_11 : ¬ (("let" : Str) = "21") := by decide +kernel
@[simp] theorem sb_23_11 : (("let" : Str) == "21") = false := by decide +kernel
@[simp] theorem sn_23_12 : ¬ (("let" : Str) = "3") := by decide +kernel
@[simp] theorem sb_23_12 : (("let" : Str) == "3") = false := by decide +kernel
@[simp] theorem sn_23_13 : ¬ (("let" : Str) = "9") := by decide +kernel
@[simp] theorem sb_23_13 : (("let" : Str) == "9") = false := by decide +kernel
@[simp] theorem sn_23_14 : ¬ (("let" : Str) = "999") := by decide +kernel
@[simp] theorem sb_23_14 : (("let" : Str) == "999") = false := by decide +kernel
@[simp] theorem sn_23_15 : ¬ (("let" : Str) = "abcdefghijklmnopqrstuvwxyz") := by decide +kernel
@[simp] theorem sb_23_15 : (("let" : Str) == "abcdefghijklmnopqrstuvwxyz") = false := by decide +kernel
@[simp] theorem sn_23_16 : ¬ (("let" : Str) = "call") := by decide +kernel
@[simp] theorem sb_23_16 : (("let" : Str) == "call") = false := by decide +kernel
@[simp] theorem sn_23_17 : ¬ (("let" : Str) = "do") := by decide +kernel
@[simp] theorem sb_23_17 : (("let" : Str) == "do") = false := by decide +kernel
@[simp] theorem sn_23_18 : ¬ (("let" : Str) = "dry") := by decide +kernel
@[simp] theorem sb_23_18 : (("let" : Str) == "dry") = false := by decide +kernel
@[simp] theorem sn_23_19 : ¬ (("let" : Str) = "far") := by decide +kernel
@[simp] theorem sb_23_19 : (("let" : Str) == "far") = false := by decide +kernel
@[simp] theorem sn_23_20 : ¬ (("let" : Str) = "if") := by decide +kernel
@[simp] theorem sb_23_20 : (("let" : Str) == "if") = false := by decide +kernel
@[simp] theorem sn_23_21 : ¬ (("let" : Str) = "kind") := by decide +kernel
@[simp] theorem sb_23_21 : (("let" : Str) == "kind") = false := by decide +kernel
@[simp] theorem sn_23_22 : ¬ (("let" : Str) = "lack") := by decide +kernel
@[simp] theorem sb_23_22 : (("let" : Str) == "lack") = false := by decide +kernel
@[simp] theorem sn_23_24 : ¬ (("let" : Str) = "loop") := by decide +kernel
@[simp] theorem sb_23_24 : (("let" : Str) == "loop") = false := by decide +kernel
@[simp] theorem sn_23_25 : ¬ (("let" : Str) = "many") := by decide +kernel
@[simp] theorem sb_23_25 : (("let" : Str) == "many") = false := by decide +kernel
@[simp] theorem sn_23_26 : ¬ (("let" : Str) = "mark") := by decide +kernel
@[simp] theorem sb_23_26 : (("let" : Str) == "mark") = false := by decide +kernel
@[simp] theorem sn_23_27 : ¬ (("let" : Str) = "melt") := by decide +kernel
@[simp] theorem sb_23_27 : (("let" : Str) == "melt") = false := by decide +kernel
@[simp] theorem sn_23_28 : ¬ (("let" : Str) = "name") := by decide +kernel
@[simp] theorem sb_23_28 : (("let" : Str) == "name") = false := by decide +kernel
@[simp] theorem sn_23_29 : ¬ (("let" : Str) = "nought") := by decide +kernel
@[simp] theorem sb_23_29 : (("let" : Str) == "nought") = false := by decide +kernel
@[simp] theorem sn_23_30 : ¬ (("let" : Str) = "number") := by decide +kernel
@[simp] theorem sb_23_30 : (("let" : Str) == "number") = false := by decide +kernel
@[simp] theorem sn_23_31 : ¬ (("let" : Str) = "parts") := by decide +kernel
@[simp] theorem sb_23_31 : (("let" : Str) == "parts") = false := by decide +kernel
@[simp] theorem sn_23_32 : ¬ (("let" : Str) = "pick") := by decide +kernel
@[simp] theorem sb_23_32 : (("let" : Str) == "pick") = false := by decide +kernel
@[simp] theorem sn_23_33 : ¬ (("let" : Str) = "raise") := by decide +kernel
@[simp] theorem sb_23_33 : (("let" : Str) == "raise") = false := by decide +kernel
@[simp] theorem sn_23_34 : ¬ (("let" : Str) = "refused") := by decide +kernel
@[simp] theorem sb_23_34 : (("let" : Str) == "refused") = false := by decide +kernel
@[simp] theorem sn_23_35 : ¬ (("let" : Str) = "root") := by decide +kernel
@[simp] theorem sb_23_35 : (("let" : Str) == "root") = false := by decide +kernel
@[simp] theorem sn_23_36 : ¬ (("let" : Str) = "told") := by decide +kernel
@[simp] theorem sb_23_36 : (("let" : Str) == "told") = false := by decide +kernel
@[simp] theorem sn_23_37 : ¬ (("let" : Str) = "truth") := by decide +kernel
@[simp] theorem sb_23_37 : (("let" : Str) == "truth") = false := by decide +kernel
@[simp] theorem sn_23_38 : ¬ (("let" : Str) = "try") := by decide +kernel
@[simp] theorem sb_23_38 : (("let" : Str) == "try") = false := by decide +kernel
@[simp] theorem sn_24_0 : ¬ (("loop" : Str) = "") := by decide +kernel
@[simp] theorem sb_24_0 : (("loop" : Str) == "") = false := by decide +kernel
@[simp] theorem sn_24_1 : ¬ (("loop" : Str) = "+-*/<=") := by decide +kernel
@[simp] theorem sb_24_1 : (("loop" : Str) == "+-*/<=") = false := by decide +kernel
@[simp] theorem sn_24_2 : ¬ (("loop" : Str) = "0") := by decide +kernel
@[simp] theorem sb_24_2 : (("loop" : Str) == "0") = false := by decide +kernel
@[simp] theorem sn_24_3 : ¬ (("loop" : Str) = "0123456789") := by decide +kernel
@[simp] theorem sb_24_3 : (("loop" : Str) == "0123456789") = false := by decide +kernel
@[simp] theorem sn_24_4 : ¬ (("loop" : Str) = "1") := by decide +kernel
@[simp] theorem sb_24_4 : (("loop" : Str) == "1") = false := by decide +kernel
@[simp] theorem sn_24_5 : ¬ (("loop" : Str) = "10") := by decide +kernel
@[simp] theorem sb_24_5 : (("loop" : Str) == "10") = false := by decide +kernel
@[simp] theorem sn_24_6 : ¬ (("loop" : Str) = "100") := by decide +kernel
@[simp] theorem sb_24_6 : (("loop" : Str) == "100") = false := by decide +kernel
@[simp] theorem sn_24_7 : ¬ (("loop" : Str) = "11") := by decide +kernel
@[simp] theorem sb_24_7 : (("loop" : Str) == "11") = false := by decide +kernel
@[simp] theorem sn_24_8 : ¬ (("loop" : Str) = "12") := by decide +kernel
@[simp] theorem sb_24_8 : (("loop" : Str) == "12") = false := by decide +kernel
@[simp] theorem sn_24_9 : ¬ (("loop" : Str) = "2") := by decide +kernel
@[simp] theorem sb_24_9 : (("loop" : Str) == "2") = false := by decide +kernel
@[simp] theorem sn_24_10 : ¬ (("loop" : Str) = "20") := by decide +kernel
@[simp] theorem sb_24_10 : (("loop" : Str) == "20") = false := by decide +kernel
@[simp] theorem sn_24_11 : ¬ (("loop" : Str) = "21") := by decide +kernel
@[simp] theorem sb_24_11 : (("loop" : Str) == "21") = false := by decide +kernel
@[simp] theorem sn_24_12 : ¬ (("loop" : Str) = "3") := by decide +kernel
@[simp] theorem sb_24_12 : (("loop" : Str) == "3") = false := by decide +kernel
@[simp] theorem sn_24_13 : ¬ (("loop" : Str) = "9") := by decide +kernel
@[simp] theorem sb_24_13 : (("loop" : Str) == "9") = false := by decide +kernel
@[simp] theorem sn_24_14 : ¬ (("loop" : Str) = "999") := by decide +kernel
@[simp] theorem sb_24_14 : (("loop" : Str) == "999") = false := by decide +kernel
@[simp] theorem sn_24_15 : ¬ (("loop" : Str) = "abcdefghijklmnopqrstuvwxyz") := by decide +kernel
@[simp] theorem sb_24_15 : (("loop" : Str) == "abcdefghijklmnopqrstuvwxyz") = false := by decide +kernel
@[simp] theorem sn_24_16 : ¬ (("loop" : Str) = "call") := by decide +kernel
@[simp] theorem sb_24_16 : (("loop" : Str) == "call") = false := by decide +kernel
@[simp] theorem sn_24_17 : ¬ (("loop" : Str) = "do") := by decide +kernel
@[simp] theorem sb_24_17 : (("loop" : Str) == "do") = false := by decide +kernel
@[simp] theorem sn_24_18 : ¬ (("loop" : Str) = "dry") := by decide +kernel
@[simp] theorem sb_24_18 : (("loop" : Str) == "dry") = false := by decide +kernel
@[simp] theorem sn_24_19 : ¬ (("loop" : Str) = "far") := by decide +kernel
@[simp] theorem sb_24_19 : (("loop" : Str) == "far") = false := by decide +kernel
@[simp] theorem sn_24_20 : ¬ (("loop" : Str) = "if") := by decide +kernel
@[simp] theorem sb_24_20 : (("loop" : Str) == "if") = false := by decide +kernel
@[simp] theorem sn_24_21 : ¬ (("loop" : Str) = "kind") := by decide +kernel
@[simp] theorem sb_24_21 : (("loop" : Str) == "kind") = false := by decide +kernel
@[simp] theorem sn_24_22 : ¬ (("loop" : Str) = "lack") := by decide +kernel
@[simp] theorem sb_24_22 : (("loop" : Str) == "lack") = false := by decide +kernel
@[simp] theorem sn_24_23 : ¬ (("loop" : Str) = "let") := by decide +kernel
@[simp] theorem sb_24_23 : (("loop" : Str) == "let") = false := by decide +kernel
@[simp] theorem sn_24_25 : ¬ (("loop" : Str) = "many") := by decide +kernel
@[simp] theorem sb_24_25 : (("loop" : Str) == "many") = false := by decide +kernel
@[simp] theorem sn_24_26 : ¬ (("loop" : Str) = "mark") := by decide +kernel
@[simp] theorem sb_24_26 : (("loop" : Str) == "mark") = false := by decide +kernel
@[simp] theorem sn_24_27 : ¬ (("loop" : Str) = "melt") := by decide +kernel
@[simp] theorem sb_24_27 : (("loop" : Str) == "melt") = false := by decide +kernel
@[simp] theorem sn_24_28 : ¬ (("loop" : Str) = "name") := by decide +kernel
@[simp] theorem sb_24_28 : (("loop" : Str) == "name") = false := by decide +kernel
@[simp] theorem sn_24_29 : ¬ (("loop" : Str) = "nought") := by decide +kernel
@[simp] theorem sb_24_29 : (("loop" : Str) == "nought") = false := by decide +kernel
@[simp] theorem sn_24_30 : ¬ (("loop" : Str) = "number") := by decide +kernel
@[simp] theorem sb_24_30 : (("loop" : Str) == "number") = false := by decide +kernel
@[simp] theorem sn_24_31 : ¬ (("loop" : Str) = "parts") := by decide +kernel
@[simp] theorem sb_24_31 : (("loop" : Str) == "parts") = false := by decide +kernel
@[simp] theorem sn_24_32 : ¬ (("loop" : Str) = "pick") := by decide +kernel
@[simp] theorem sb_24_32 : (("loop" : Str) == "pick") = false := by decide +kernel
@[simp] theorem sn_24_33 : ¬ (("loop" : Str) = "raise") := by decide +kernel
@[simp] theorem sb_24_33 : (("loop" : Str) == "raise") = false := by decide +kernel
@[simp] theorem sn_24_34 : ¬ (("loop" : Str) = "refused") := by decide +kernel
@[simp] theorem sb_24_34 : (("loop" : Str) == "refused") = false := by decide +kernel
@[simp] theorem sn_24_35 : ¬ (("loop" : Str) = "root") := by decide +kernel
@[simp] theorem sb_24_35 : (("loop" : Str) == "root") = false := by decide +kernel
@[simp] theorem sn_24_36 : ¬ (("loop" : Str) = "told") := by decide +kernel
@[simp] theorem sb_24_36 : (("loop" : Str) == "told") = false := by decide +kernel
@[simp] theorem sn_24_37 : ¬ (("loop" : Str) = "truth") := by decide +kernel
@[simp] theorem sb_24_37 : (("loop" : Str) == "truth") = false := by decide +kernel
@[simp] theorem sn_24_38 : ¬ (("loop" : Str) = "try") := by decide +kernel
@[simp] theorem sb_24_38 : (("loop" : Str) == "try") = false := by decide +kernel
@[simp] theorem sn_25_0 : ¬ (("many" : Str) = "") := by decide +kernel
@[simp] theorem sb_25_0 : (("many" : Str) == "") = false := by decide +kernel
@[simp] theorem sn_25_1 : ¬ (("many" : Str) = "+-*/<=") := by decide +kernel
@[simp] theorem sb_25_1 : (("many" : Str) == "+-*/<=") = false := by decide +kernel
@[simp] theorem sn_25_2 : ¬ (("many" : Str) = "0") := by decide +kernel
@[simp] theorem sb_25_2 : (("many" : Str) == "0") = false := by decide +kernel
@[simp] theorem sn_25_3 : ¬ (("many" : Str) = "0123456789") := by decide +kernel
@[simp] theorem sb_25_3 : (("many" : Str) == "0123456789") = false := by decide +kernel
@[simp] theorem sn_25_4 : ¬ (("many" : Str) = "1") := by decide +kernel
@[simp] theorem sb_25_4 : (("many" : Str) == "1") = false := by decide +kernel
@[simp] theorem sn_25_5 : ¬ (("many" : Str) = "10") := by decide +kernel
@[simp] theorem sb_25_5 : (("many" : Str) == "10") = false := by decide +kernel
@[simp] theorem sn_25_6 : ¬ (("many" : Str) = "100") := by decide +kernel
@[simp] theorem sb_25_6 : (("many" : Str) == "100") = false := by decide +kernel
@[simp] theorem sn_25_7 : ¬ (("many" : Str) = "11") := by decide +kernel
@[simp] theorem sb_25_7 : (("many" : Str) == "11") = false := by decide +kernel
@[simp] theorem sn_25_8 : ¬ (("many" : Str) = "12") := by decide +kernel
@[simp] theorem sb_25_8 : (("many" : Str) == "12") = false := by decide +kernel
@[simp] theorem sn_25_9 : ¬ (("many" : Str) = "2") := by decide +kernel
@[simp] theorem sb_25_9 : (("many" : Str) == "2") = false := by decide +kernel
@[simp] theorem sn_25_10 : ¬ (("many" : Str) = "20") := by decide +kernel
@[simp] theorem sb_25_10 : (("many" : Str) == "20") = false := by decide +kernel
@[simp] theorem sn_25_11 : ¬ (("many" : Str) = "21") := by decide +kernel
@[simp] theorem sb_25_11 : (("many" : Str) == "21") = false := by decide +kernel
@[simp] theorem sn_25_12 : ¬ (("many" : Str) = "3") := by decide +kernel
@[simp] theorem sb_25_12 : (("many" : Str) == "3") = false := by decide +kernel
@[simp] theorem sn_25_13 : ¬ (("many" : Str) = "9") := by decide +kernel
@[simp] theorem sb_25_13 : (("many" : Str) == "9") = false := by decide +kernel
@[simp] theorem sn_25_14 : ¬ (("many" : Str) = "999") := by decide +kernel
@[simp] theorem sb_25_14 : (("many" : Str) == "999") = false := by decide +kernel
@[simp] theorem sn_25_15 : ¬ (("many" : Str) = "abcdefghijklmnopqrstuvwxyz") := by decide +kernel
@[simp] theorem sb_25_15 : (("many" : Str) == "abcdefghijklmnopqrstuvwxyz") = false := by decide +kernel
@[simp] theorem sn_25_16 : ¬ (("many" : Str) = "call") := by decide +kernel
@[simp] theorem sb_25_16 : (("many" : Str) == "call") = false := by decide +kernel
@[simp] theorem sn_25_17 : ¬ (("many" : Str) = "do") := by decide +kernel
@[simp] theorem sb_25_17 : (("many" : Str) == "do") = false := by decide +kernel
@[simp] theorem sn_25_18 : ¬ (("many" : Str) = "dry") := by decide +kernel
@[simp] theorem sb_25_18 : (("many" : Str) == "dry") = false := by decide +kernel
@[simp] theorem sn_25_19 : ¬ (("many" : Str) = "far") := by decide +kernel
@[simp] theorem sb_25_19 : (("many" : Str) == "far") = false := by decide +kernel
@[simp] theorem sn_25_20 : ¬ (("many" : Str) = "if") := by decide +kernel
@[simp] theorem sb_25_20 : (("many" : Str) == "if") = false := by decide +kernel
@[simp] theorem sn_25_21 : ¬ (("many" : Str) = "kind") := by decide +kernel
@[simp] theorem sb_25_21 : (("many" : Str) == "kind") = false := by decide +kernel
@[simp] theorem sn_25_22 : ¬ (("many" : Str) = "lack") := by decide +kernel
@[simp] theorem sb_25_22 : (("many" : Str) == "lack") = false := by decide +kernel
@[simp] theorem sn_25_23 : ¬ (("many" : Str) = "let") := by decide +kernel
@[simp] theorem sb_25_23 : (("many" : Str) == "let") = false := by decide +kernel
@[simp] theorem sn_25_24 : ¬ (("many" : Str) = "loop") := by decide +kernel
@[simp] theorem sb_25_24 : (("many" : Str) == "loop") = false := by decide +kernel
@[simp] theorem sn_25_26 : ¬ (("many" : Str) = "mark") := by decide +kernel
@[simp] theorem sb_25_26 : (("many" : Str) == "mark") = false := by decide +kernel
@[simp] theorem sn_25_27 : ¬ (("many" : Str) = "melt") := by decide +kernel
@[simp] theorem sb_25_27 : (("many" : Str) == "melt") = false := by decide +kernel
@[simp] theorem sn_25_28 : ¬ (("many" : Str) = "name") := by decide +kernel
@[simp] theorem sb_25_28 : (("many" : Str) == "name") = false := by decide +kernel
@[simp] theorem sn_25_29 : ¬ (("many" : Str) = "nought") := by decide +kernel
@[simp] theorem sb_25_29 : (("many" : Str) == "nought") = false := by decide +kernel
@[simp] theorem sn_25_30 : ¬ (("many" : Str) = "number") := by decide +kernel
@[simp] theorem sb_25_30 : (("many" : Str) == "number") = false := by decide +kernel
@[simp] theorem sn_25_31 : ¬ (("many" : Str) = "parts") := by decide +kernel
@[simp] theorem sb_25_31 : (("many" : Str) == "parts") = false := by decide +kernel
@[simp] theorem sn_25_32 : ¬ (("many" : Str) = "pick") := by decide +kernel
@[simp] theorem sb_25_32 : (("many" : Str) == "pick") = false := by decide +kernel
@[simp] theorem sn_25_33 : ¬ (("many" : Str) = "raise") := by decide +kernel
@[simp] theorem sb_25_33 : (("many" : Str) == "raise") = false := by decide +kernel
@[simp] theorem sn_25_34 : ¬ (("many" : Str) = "refused") := by decide +kernel
@[simp] theorem sb_25_34 : (("many" : Str) == "refused") = false := by decide +kernel
@[simp] theorem sn_25_35 : ¬ (("many" : Str) = "root") := by decide +kernel
@[simp] theorem sb_25_35 : (("many" : Str) == "root") = false := by decide +kernel
@[simp] theorem sn_25_36 : ¬ (("many" : Str) = "told") := by decide +kernel
@[simp] theorem sb_25_36 : (("many" : Str) == "told") = false := by decide +kernel
@[simp] theorem sn_25_37 : ¬ (("many" : Str) = "truth") := by decide +kernel
@[simp] theorem sb_25_37 : (("many" : Str) == "truth") = false := by decide +kernel
@[simp] theorem sn_25_38 : ¬ (("many" : Str) = "try") := by decide +kernel
@[simp] theorem sb_25_38 : (("many" : Str) == "try") = false := by decide +kernel
@[simp] theorem sn_26_0 : ¬ (("mark" : Str) = "") := by decide +kernel
@[simp] theorem sb_26_0 : (("mark" : Str) == "") = false := by decide +kernel
@[simp] theorem sn_26_1 : ¬ (("mark" : Str) = "+-*/<=") := by decide +kernel
@[simp] theorem sb_26_1 : (("mark" : Str) == "+-*/<=") = false := by decide +kernel
@[simp] theorem sn_26_2 : ¬ (("mark" : Str) = "0") := by decide +kernel
@[simp] theorem sb_26_2 : (("mark" : Str) == "0") = false := by decide +kernel
@[simp] theorem sn_26_3 : ¬ (("mark" : Str) = "0123456789") := by decide +kernel
@[simp] theorem sb_26_3 : (("mark" : Str) == "0123456789") = false := by decide +kernel
@[simp] theorem sn_26_4 : ¬ (("mark" : Str) = "1") := by decide +kernel
@[simp] theorem sb_26_4 : (("mark" : Str) == "1") = false := by decide +kernel
@[simp] theorem sn_26_5 : ¬ (("mark" : Str) = "10") := by decide +kernel
@[simp] theorem sb_26_5 : (("mark" : Str) == "10") = false := by decide +kernel
@[simp] theorem sn_26_6 : ¬ (("mark" : Str) = "100") := by decide +kernel
@[simp] theorem sb_26_6 : (("mark" : Str) == "100") = false := by decide +kernel
@[simp] theorem sn_26_7 : ¬ (("mark" : Str) = "11") := by decide +kernel
@[simp] theorem sb_26_7 : (("mark" : Str) == "11") = false := by decide +kernel
@[simp] theorem sn_26_8 : ¬ (("mark" : Str) = "12") := by decide +kernel
@[simp] theorem sb_26_8 : (("mark" : Str) == "12") = false := by decide +kernel
@[simp] theorem sn_26_9 : ¬ (("mark" : Str) = "2") := by decide +kernel
@[simp] theorem sb_26_9 : (("mark" : Str) == "2") = false := by decide +kernel
@[simp] theorem sn_26_10 : ¬ (("mark" : Str) = "20") := by decide +kernel
@[simp] theorem sb_26_10 : (("mark" : Str) == "20") = false := by decide +kernel
@[simp] theorem sn_26_11 : ¬ (("mark" : Str) = "21") := by decide +kernel
@[simp] theorem sb_26_11 : (("mark" : Str) == "21") = false := by decide +kernel
@[simp] theorem sn_26_12 : ¬ (("mark" : Str) = "3") := by decide +kernel
@[simp] theorem sb_26_12 : (("mark" : Str) == "3") = false := by decide +kernel
@[simp] theorem sn_26_13 : ¬ (("mark" : Str) = "9") := by decide +kernel
@[simp] theorem sb_26_13 : (("mark" : Str) == "9") = false := by decide +kernel
@[simp] theorem sn_26_14 : ¬ (("mark" : Str) = "999") := by decide +kernel
@[simp] theorem sb_26_14 : (("mark" : Str) == "999") = false := by decide +kernel
@[simp] theorem sn_26_15 : ¬ (("mark" : Str) = "abcdefghijklmnopqrstuvwxyz") := by decide +kernel
@[simp] theorem sb_26_15 : (("mark" : Str) == "abcdefghijklmnopqrstuvwxyz") = false := by decide +kernel
@[simp] theorem sn_26_16 : ¬ (("mark" : Str) = "call") := by decide +kernel
@[simp] theorem sb_26_16 : (("mark" : Str) == "call") = false := by decide +kernel
@[simp] theorem sn_26_17 : ¬ (("mark" : Str) = "do") := by decide +kernel
@[simp] theorem sb_26_17 : (("mark" : Str) == "do") = false := by decide +kernel
@[simp] theorem sn_26_18 : ¬ (("mark" : Str) = "dry") := by decide +kernel
@[simp] theorem sb_26_18 : (("mark" : Str) == "dry") = false := by decide +kernel
@[simp] theorem sn_26_19 : ¬ (("mark" : Str) = "far") := by decide +kernel
@[simp] theorem sb_26_19 : (("mark" : Str) == "far") = false := by decide +kernel
@[simp] theorem sn_26_20 : ¬ (("mark" : Str) = "if") := by decide +kernel
@[simp] theorem sb_26_20 : (("mark" : Str) == "if") = false := by decide +kernel
@[simp] theorem sn_26_21 : ¬ (("mark" : Str) = "kind") := by decide +kernel
@[simp] theorem sb_26_21 : (("mark" : Str) == "kind") = false := by decide +kernel
@[simp] theorem sn_26_22 : ¬ (("mark" : Str) = "lack") := by decide +kernel
@[simp] theorem sb_26_22 : (("mark" : Str) == "lack") = false := by decide +kernel
@[simp] theorem sn_26_23 : ¬ (("mark" : Str) = "let") := by decide +kernel
@[simp] theorem sb_26_23 : (("mark" : Str) == "let") = false := by decide +kernel
@[simp] theorem sn_26_24 : ¬ (("mark" : Str) = "loop") := by decide +kernel
@[simp] theorem sb_26_24 : (("mark" : Str) == "loop") = false := by decide +kernel
@[simp] theorem sn_26_25 : ¬ (("mark" : Str) = "many") := by decide +kernel
@[simp] theorem sb_26_25 : (("mark" : Str) == "many") = false := by decide +kernel
@[simp] theorem sn_26_27 : ¬ (("mark" : Str) = "melt") := by decide +kernel
@[simp] theorem sb_26_27 : (("mark" : Str) == "melt") = false := by decide +kernel
@[simp] theorem sn_26_28 : ¬ (("mark" : Str) = "name") := by decide +kernel
@[simp] theorem sb_26_28 : (("mark" : Str) == "name") = false := by decide +kernel
@[simp] theorem sn_26_29 : ¬ (("mark" : Str) = "nought") := by decide +kernel
@[simp] theorem sb_26_29 : (("mark" : Str) == "nought") = false := by decide +kernel
@[simp] theorem sn_26_30 : ¬ (("mark" : Str) = "number") := by decide +kernel
@[simp] theorem sb_26_30 : (("mark" : Str) == "number") = false := by decide +kernel
@[simp] theorem sn_26_31 : ¬ (("mark" : Str) = "parts") := by decide +kernel
@[simp] theorem sb_26_31 : (("mark" : Str) == "parts") = false := by decide +kernel
@[simp] theorem sn_26_32 : ¬ (("mark" : Str) = "pick") := by decide +kernel
@[simp] theorem sb_26_32 : (("mark" : Str) == "pick") = false := by decide +kernel
@[simp] theorem sn_26_33 : ¬ (("mark" : Str) = "raise") := by decide +kernel
@[simp] theorem sb_26_33 : (("mark" : Str) == "raise") = false := by decide +kernel
@[simp] theorem sn_26_34 : ¬ (("mark" : Str) = "refused") := by decide +kernel
@[simp] theorem sb_26_34 : (("mark" : Str) == "refused") = false := by decide +kernel
@[simp] theorem sn_26_35 : ¬ (("mark" : Str) = "root") := by decide +kernel
@[simp] theorem sb_26_35 : (("mark" : Str) == "root") = false := by decide +kernel
@[simp] theorem sn_26_36 : ¬ (("mark" : Str) = "told") := by decide +kernel
@[simp] theorem sb_26_36 : (("mark" : Str) == "told") = false := by decide +kernel
@[simp] theorem sn_26_37 : ¬ (("mark" : Str) = "truth") := by decide +kernel
@[simp] theorem sb_26_37 : (("mark" : Str) == "truth") = false := by decide +kernel
@[simp] theorem sn_26_38 : ¬ (("mark" : Str) = "try") := by decide +kernel
@[simp] theorem sb_26_38 : (("mark" : Str) == "try") = false := by decide +kernel
@[simp] theorem sn_27_0 : ¬ (("melt" : Str) = "") := by decide +kernel
@[simp] theorem sb_27_0 : (("melt" : Str) == "") = false := by decide +kernel
@[simp] theorem sn_27_1 : ¬ (("melt" : Str) = "+-*/<=") := by decide +kernel
@[simp] theorem sb_27_1 : (("melt" : Str) == "+-*/<=") = false := by decide +kernel
@[simp] theorem sn_27_2 : ¬ (("melt" : Str) = "0") := by decide +kernel
@[simp] theorem sb_27_2 : (("melt" : Str) == "0") = false := by decide +kernel
@[simp] theorem sn_27_3 : ¬ (("melt" : Str) = "0123456789") := by decide +kernel
@[simp] theorem sb_27_3 : (("melt" : Str) == "0123456789") = false := by decide +kernel
@[simp] theorem sn_27_4 : ¬ (("melt" : Str) = "1") := by decide +kernel
@[simp] theorem sb_27_4 : (("melt" : Str) == "1") = false := by decide +kernel
@[simp] theorem sn_27_5 : ¬ (("melt" : Str) = "10") := by decide +kernel
@[simp] theorem sb_27_5 : (("melt" : Str) == "10") = false := by decide +kernel
@[simp] theorem sn_27_6 : ¬ (("melt" : Str) = "100") := by decide +kernel
@[simp] theorem sb_27_6 : (("melt" : Str) == "100") = false := by decide +kernel
@[simp] theorem sn_27_7 : ¬ (("melt" : Str) = "11") := by decide +kernel
@[simp] theorem sb_27_7 : (("melt" : Str) == "11") = false := by decide +kernel
@[simp] theorem sn_27_8 : ¬ (("melt" : Str) = "12") := by decide +kernel
@[simp] theorem sb_27_8 : (("melt" : Str) == "12") = false := by decide +kernel
@[simp] theorem sn_27_9 : ¬ (("melt" : Str) = "2") := by decide +kernel
@[simp] theorem sb_27_9 : (("melt" : Str) == "2") = false := by decide +kernel
@[simp] theorem sn_27_10 : ¬ (("melt" : Str) = "20") := by decide +kernel
@[simp] theorem sb_27_10 : (("melt" : Str) == "20") = false := by decide +kernel
@[simp] theorem sn_27_11 : ¬ (("melt" : Str) = "21") := by decide +kernel
@[simp] theorem sb_27_11 : (("melt" : Str) == "21") = false := by decide +kernel
@[simp] theorem sn_27_12 : ¬ (("melt" : Str) = "3") := by decide +kernel
@[simp] theorem sb_27_12 : (("melt" : Str) == "3") = false := by decide +kernel
@[simp] theorem sn_27_13 : ¬ (("melt" : Str) = "9") := by decide +kernel
@[simp] theorem sb_27_13 : (("melt" : Str) == "9") = false := by decide +kernel
@[simp] theorem sn_27_14 : ¬ (("melt" : Str) = "999") := by decide +kernel
@[simp] theorem sb_27_14 : (("melt" : Str) == "999") = false := by decide +kernel
@[simp] theorem sn_27_15 : ¬ (("melt" : Str) = "abcdefghijklmnopqrstuvwxyz") := by decide +kernel
@[simp] theorem sb_27_15 : (("melt" : Str) == "abcdefghijklmnopqrstuvwxyz") = false := by decide +kernel
@[simp] theorem sn_27_16 : ¬ (("melt" : Str) = "call") := by decide +kernel
@[simp] theorem sb_27_16 : (("melt" : Str) == "call") = false := by decide +kernel
@[simp] theorem sn_27_17 : ¬ (("melt" : Str) = "do") := by decide +kernel
@[simp] theorem sb_27_17 : (("melt" : Str) == "do") = false := by decide +kernel
@[simp] theorem sn_27_18 : ¬ (("melt" : Str) = "dry") := by decide +kernel
@[simp] theorem sb_27_18 : (("melt" : Str) == "dry") = false := by decide +kernel
@[simp] theorem sn_27_19 : ¬ (("melt" : Str) = "far") := by decide +kernel
@[simp] theorem sb_27_19 : (("melt" : Str) == "far") = false := by decide +kernel
@[simp] theorem sn_27_20 : ¬ (("melt" : Str) = "if") := by decide +kernel
@[simp] theorem sb_27_20 : (("melt" : Str) == "if") = false := by decide +kernel
@[simp] theorem sn_27_21 : ¬ (("melt" : Str) = "kind") := by decide +kernel
@[simp] theorem sb_27_21 : (("melt" : Str) == "kind") = false := by decide +kernel
@[simp] theorem sn_27_22 : ¬ (("melt" : Str) = "lack") := by decide +kernel
@[simp] theorem sb_27_22 : (("melt" : Str) == "lack") = false := by decide +kernel
@[simp] theorem sn_27_23 : ¬ (("melt" : Str) = "let") := by decide +kernel
@[simp] theorem sb_27_23 : (("melt" : Str) == "let") = false := by decide +kernel
@[simp] theorem sn_27_24 : ¬ (("melt" : Str) = "loop") := by decide +kernel
@[simp] theorem sb_27_24 : (("melt" : Str) == "loop") = false := by decide +kernel
@[simp] theorem sn_27_25 : ¬ (("melt" : Str) = "many") := by decide +kernel
@[simp] theorem sb_27_25 : (("melt" : Str) == "many") = false := by decide +kernel
@[simp] theorem sn_27_26 : ¬ (("melt" : Str) = "mark") := by decide +kernel
@[simp] theorem sb_27_26 : (("melt" : Str) == "mark") = false := by decide +kernel
@[simp] theorem sn_27_28 : ¬ (("melt" : Str) = "name") := by decide +kernel
@[simp] theorem sb_27_28 : (("melt" : Str) == "name") = false := by decide +kernel
@[simp] theorem sn_27_29 : ¬ (("melt" : Str) = "nought") := by decide +kernel
@[simp] theorem sb_27_29 : (("melt" : Str) == "nought") = false := by decide +kernel
@[simp] theorem sn_27_30 : ¬ (("melt" : Str) = "number") := by decide +kernel
@[simp] theorem sb_27_30 : (("melt" : Str) == "number") = false := by decide +kernel
@[simp] theorem sn_27_31 : ¬ (("melt" : Str) = "parts") := by decide +kernel
@[simp] theorem sb_27_31 : (("melt" : Str) == "parts") = false := by decide +kernel
@[simp] theorem sn_27_32 : ¬ (("melt" : Str) = "pick") := by decide +kernel
@[simp] theorem sb_27_32 : (("melt" : Str) == "pick") = false := by decide +kernel
@[simp] theorem sn_27_33 : ¬ (("melt" : Str) = "raise") := by decide +kernel
@[simp] theorem sb_27_33 : (("melt" : Str) == "raise") = false := by decide +kernel
@[simp] theorem sn_27_34 : ¬ (("melt" : Str) = "refused") := by decide +kernel
@[simp] theorem sb_27_34 : (("melt" : Str) == "refused") = false := by decide +kernel
@[simp] theorem sn_27_35 : ¬ (("melt" : Str) = "root") := by decide +kernel
@[simp] theorem sb_27_35 : (("melt" : Str) == "root") = false := by decide +kernel
@[simp] theorem sn_27_36 : ¬ (("melt" : Str) = "told") := by decide +kernel
@[simp] theorem sb_27_36 : (("melt" : Str) == "told") = false := by decide +kernel
@[simp] theorem sn_27_37 : ¬ (("melt" : Str) = "truth") := by decide +kernel
@[simp] theorem sb_27_37 : (("melt" : Str) == "truth") = false := by decide +kernel
@[simp] theorem sn_27_38 : ¬ (("melt" : Str) = "try") := by decide +kernel
@[simp] theorem sb_27_38 : (("melt" : Str) == "try") = false := by decide +kernel
@[simp] theorem sn_28_0 : ¬ (("name" : Str) = "") := by decide +kernel
@[simp] theorem sb_28_0 : (("name" : Str) == "") = false := by decide +kernel
@[simp] theorem sn_28_1 : ¬ (("name" : Str) = "+-*/<=") := by decide +kernel
@[simp] theorem sb_28_1 : (("name" : Str) == "+-*/<=") = false := by decide +kernel
@[simp] theorem sn_28_2 : ¬ (("name" : Str) = "0") := by decide +kernel
@[simp] theorem sb_28_2 : (("name" : Str) == "0") = false := by decide +kernel
@[simp] theorem sn_28_3 : ¬ (("name" : Str) = "0123456789") := by decide +kernel
@[simp] theorem sb_28_3 : (("name" : Str) == "0123456789") = false := by decide +kernel
@[simp] theorem sn_28_4 : ¬ (("name" : Str) = "1") := by decide +kernel
@[simp] theorem sb_28_4 : (("name" : Str) == "1") = false := by decide +kernel
@[simp] theorem sn_28_5 : ¬ (("name" : Str) = "10") := by decide +kernel
@[simp] theorem sb_28_5 : (("name" : Str) == "10") = false := by decide +kernel
@[simp] theorem sn_28_6 : ¬ (("name" : Str) = "100") := by decide +kernel
@[simp] theorem sb_28_6 : (("name" : Str) == "100") = false := by decide +kernel
@[simp] theorem sn_28_7 : ¬ (("name" : Str) = "11") := by decide +kernel
@[simp] theorem sb_28_7 : (("name" : Str) == "11") = false := by decide +kernel
@[simp] theorem sn_28_8 : ¬ (("name" : Str) = "12") := by decide +kernel
@[simp] theorem sb_28_8 : (("name" : Str) == "12") = false := by decide +kernel
@[simp] theorem sn_28_9 : ¬ (("name" : Str) = "2") := by decide +kernel
@[simp] theorem sb_28_9 : (("name" : Str) == "2") = false := by decide +kernel
@[simp] theorem sn_28_10 : ¬ (("name" : Str) = "20") := by decide +kernel
@[simp] theorem sb_28_10 : (("name" : Str) == "20") = false := by decide +kernel
@[simp] theorem sn_28_11 : ¬ (("name" : Str) = "21") := by decide +kernel
@[simp] theorem sb_28_11 : (("name" : Str) == "21") = false := by decide +kernel
@[simp] theorem sn_28_12 : ¬ (("name" : Str) = "3") := by decide +kernel
@[simp] theorem sb_28_12 : (("name" : Str) == "3") = false := by decide +kernel
@[simp] theorem sn_28_13 : ¬ (("name" : Str) = "9") := by decide +kernel
@[simp] theorem sb_28_13 : (("name" : Str) == "9") = false := by decide +kernel
@[simp] theorem sn_28_14 : ¬ (("name" : Str) = "999") := by decide +kernel
@[simp] theorem sb_28_14 : (("name" : Str) == "999") = false := by decide +kernel
@[simp] theorem sn_28_15 : ¬ (("name" : Str) = "abcdefghijklmnopqrstuvwxyz") := by decide +kernel
@[simp] theorem sb_28_15 : (("name" : Str) == "abcdefghijklmnopqrstuvwxyz") = false := by decide +kernel
@[simp] theorem sn_28_16 : ¬ (("name" : Str) = "call") := by decide +kernel
@[simp] theorem sb_28_16 : (("name" : Str) == "call") = false := by decide +kernel
@[simp] theorem sn_28_17 : ¬ (("name" : Str) = "do") := by decide +kernel
@[simp] theorem sb_28_17 : (("name" : Str) == "do") = false := by decide +kernel
@[simp] theorem sn_28_18 : ¬ (("name" : Str) = "dry") := by decide +kernel
@[simp] theorem sb_28_18 : (("name" : Str) == "dry") = false := by decide +kernel
@[simp] theorem sn_28_19 : ¬ (("name" : Str) = "far") := by decide +kernel
@[simp] theorem sb_28_19 : (("name" : Str) == "far") = false := by decide +kernel
@[simp] theorem sn_28_20 : ¬ (("name" : Str) = "if") := by decide +kernel
@[simp] theorem sb_28_20 : (("name" : Str) == "if") = false := by decide +kernel
@[simp] theorem sn_28_21 : ¬ (("name" : Str) = "kind") := by decide +kernel
@[simp] theorem sb_28_21 : (("name" : Str) == "kind") = false := by decide +kernel
@[simp] theorem sn_28_22 : ¬ (("name" : Str) = "lack") := by decide +kernel
@[simp] theorem sb_28_22 : (("name" : Str) == "lack") = false := by decide +kernel
@[simp] theorem sn_28_23 : ¬ (("name" : Str) = "let") := by decide +kernel
@[simp] theorem sb_28_23 : (("name" : Str) == "let") = false := by decide +kernel
@[simp] theorem sn_28_24 : ¬ (("name" : Str) = "loop") := by decide +kernel
@[simp] theorem sb_28_24 : (("name" : Str) == "loop") = false := by decide +kernel
@[simp] theorem sn_28_25 : ¬ (("name" : Str) = "many") := by decide +kernel
@[simp] theorem sb_28_25 : (("name" : Str) == "many") = false := by decide +kernel
@[simp] theorem sn_28_26 : ¬ (("name" : Str) = "mark") := by decide +kernel
@[simp] theorem sb_28_26 : (("name" : Str) == "mark") = false := by decide +kernel
@[simp] theorem sn_28_27 : ¬ (("name" : Str) = "melt") := by decide +kernel
@[simp] theorem sb_28_27 : (("name" : Str) == "melt") = false := by decide +kernel
@[simp] theorem sn_28_29 : ¬ (("name" : Str) = "nought") := by decide +kernel
@[simp] theorem sb_28_29 : (("name" : Str) == "nought") = false := by decide +kernel
@[simp] theorem sn_28_30 : ¬ (("name" : Str) = "number") := by decide +kernel
@[simp] theorem sb_28_30 : (("name" : Str) == "number") = false := by decide +kernel
@[simp] theorem sn_28_31 : ¬ (("name" : Str) = "parts") := by decide +kernel
@[simp] theorem sb_28_31 : (("name" : Str) == "parts") = false := by decide +kernel
@[simp] theorem sn_28_32 : ¬ (("name" : Str) = "pick") := by decide +kernel
@[simp] theorem sb_28_32 : (("name" : Str) == "pick") = false := by decide +kernel
@[simp] theorem sn_28_33 : ¬ (("name" : Str) = "raise") := by decide +kernel
@[simp] theorem sb_28_33 : (("name" : Str) == "raise") = false := by decide +kernel
@[simp] theorem sn_28_34 : ¬ (("name" : Str) = "refused") := by decide +kernel
@[simp] theorem sb_28_34 : (("name" : Str) == "refused") = false := by decide +kernel
@[simp] theorem sn_28_35 : ¬ (("name" : Str) = "root") := by decide +kernel
@[simp] theorem sb_28_35 : (("name" : Str) == "root") = false := by decide +kernel
@[simp] theorem sn_28_36 : ¬ (("name" : Str) = "told") := by decide +kernel
@[simp] theorem sb_28_36 : (("name" : Str) == "told") = false := by decide +kernel
@[simp] theorem sn_28_37 : ¬ (("name" : Str) = "truth") := by decide +kernel
@[simp] theorem sb_28_37 : (("name" : Str) == "truth") = false := by decide +kernel
@[simp] theorem sn_28_38 : ¬ (("name" : Str) = "try") := by decide +kernel
@[simp] theorem sb_28_38 : (("name" : Str) == "try") = false := by decide +kernel
@[simp] theorem sn_29_0 : ¬ (("nought" : Str) = "") := by decide +kernel
@[simp] theorem sb_29_0 : (("nought" : Str) == "") = false := by decide +kernel
@[simp] theorem sn_29_1 : ¬ (("nought" : Str) = "+-*/<=") := by decide +kernel
@[simp] theorem sb_29_1 : (("nought" : Str) == "+-*/<=") = false := by decide +kernel
@[simp] theorem sn_29_2 : ¬ (("nought" : Str) = "0") := by decide +kernel
@[simp] theorem sb_29_2 : (("nought" : Str) == "0") = false := by decide +kernel
@[simp] theorem sn_29_3 : ¬ (("nought" : Str) = "0123456789") := by decide +kernel
@[simp] theorem sb_29_3 : (("nought" : Str) == "0123456789") = false := by decide +kernel
@[simp] theorem sn_29_4 : ¬ (("nought" : Str) = "1") := by decide +kernel
@[simp] theorem sb_29_4 : (("nought" : Str) == "1") = false := by decide +kernel
@[simp] theorem sn_29_5 : ¬ (("nought" : Str) = "10") := by decide +kernel
@[simp] theorem sb_29_5 : (("nought" : Str) == "10") = false := by decide +kernel
@[simp] theorem sn_29_6 : ¬ (("nought" : Str) = "100") := by decide +kernel
@[simp] theorem sb_29_6 : (("nought" : Str) == "100") = false := by decide +kernel
@[simp] theorem sn_29_7 : ¬ (("nought" : Str) = "11") := by decide +kernel
@[simp] theorem sb_29_7 : (("nought" : Str) == "11") = false := by decide +kernel
@[simp] theorem sn_29_8 : ¬ (("nought" : Str) = "12") := by decide +kernel
@[simp] theorem sb_29_8 : (("nought" : Str) == "12") = false := by decide +kernel
@[simp] theorem sn_29_9 : ¬ (("nought" : Str) = "2") := by decide +kernel
@[simp] theorem sb_29_9 : (("nought" : Str) == "2") = false := by decide +kernel
@[simp] theorem sn_29_10 : ¬ (("nought" : Str) = "20") := by decide +kernel
@[simp] theorem sb_29_10 : (("nought" : Str) == "20") = false := by decide +kernel
@[simp] theorem sn_29_11 : ¬ (("nought" : Str) = "21") := by decide +kernel
@[simp] theorem sb_29_11 : (("nought" : Str) == "21") = false := by decide +kernel
@[simp] theorem sn_29_12 : ¬ (("nought" : Str) = "3") := by decide +kernel
@[simp] theorem sb_29_12 : (("nought" : Str) == "3") = false := by decide +kernel
@[simp] theorem sn_29_13 : ¬ (("nought" : Str) = "9") := by decide +kernel
@[simp] theorem sb_29_13 : (("nought" : Str) == "9") = false := by decide +kernel
@[simp] theorem sn_29_14 : ¬ (("nought" : Str) = "999") := by decide +kernel
@[simp] theorem sb_29_14 : (("nought" : Str) == "999") = false := by decide +kernel
@[simp] theorem sn_29_15 : ¬ (("nought" : Str) = "abcdefghijklmnopqrstuvwxyz") := by decide +kernel
@[simp] theorem sb_29_15 : (("nought" : Str) == "abcdefghijklmnopqrstuvwxyz") = false := by decide +kernel
@[simp] theorem sn_29_16 : ¬ (("nought" : Str) = "call") := by decide +kernel
@[simp] theorem sb_29_16 : (("nought" : Str) == "call") = false := by decide +kernel
@[simp] theorem sn_29_17 : ¬ (("nought" : Str) = "do") := by decide +kernel
@[simp] theorem sb_29_17 : (("nought" : Str) == "do") = false := by decide +kernel
@[simp] theorem sn_29_18 : ¬ (("nought" : Str) = "dry") := by decide +kernel
@[simp] theorem sb_29_18 : (("nought" : Str) == "dry") = false := by decide +kernel
@[simp] theorem sn_29_19 : ¬ (("nought" : Str) = "far") := by decide +kernel
@[simp] theorem sb_29_19 : (("nought" : Str) == "far") = false := by decide +kernel
@[simp] theorem sn_29_20 : ¬ (("nought" : Str) = "if") := by decide +kernel
@[simp] theorem sb_29_20 : (("nought" : Str) == "if") = false := by decide +kernel
@[simp] theorem sn_29_21 : ¬ (("nought" : Str) = "kind") := by decide +kernel
@[simp] theorem sb_29_21 : (("nought" : Str) == "kind") = false := by decide +kernel
@[simp] theorem sn_29_22 : ¬ (("nought" : Str) = "lack") := by decide +kernel
@[simp] theorem sb_29_22 : (("nought" : Str) == "lack") = false := by decide +kernel
@[simp] theorem sn_29_23 : ¬ (("nought" : Str) = "let") := by decide +kernel
@[simp] theorem sb_29_23 : (("nought" : Str) == "let") = false := by decide +kernel
@[simp] theorem sn_29_24 : ¬ (("nought" : Str) = "loop") := by decide +kernel
@[simp] theorem sb_29_24 : (("nought" : Str) == "loop") = false := by decide +kernel
@[simp] theorem sn_29_25 : ¬ (("nought" : Str) = "many") := by decide +kernel
@[simp] theorem sb_29_25 : (("nought" : Str) == "many") = false := by decide +kernel
@[simp] theorem sn_29_26 : ¬ (("nought" : Str) = "mark") := by decide +kernel
@[simp] theorem sb_29_26 : (("nought" : Str) == "mark") = false := by decide +kernel
@[simp] theorem sn_29_27 : ¬ (("nought" : Str) = "melt") := by decide +kernel
@[simp] theorem sb_29_27 : (("nought" : Str) == "melt") = false := by decide +kernel
@[simp] theorem sn_29_28 : ¬ (("nought" : Str) = "name") := by decide +kernel
@[simp] theorem sb_29_28 : (("nought" : Str) == "name") = false := by decide +kernel
@[simp] theorem sn_29_30 : ¬ (("nought" : Str) = "number") := by decide +kernel
@[simp] theorem sb_29_30 : (("nought" : Str) == "number") = false := by decide +kernel
@[simp] theorem sn_29_31 : ¬ (("nought" : Str) = "parts") := by decide +kernel
@[simp] theorem sb_29_31 : (("nought" : Str) == "parts") = false := by decide +kernel
@[simp] theorem sn_29_32 : ¬ (("nought" : Str) = "pick") := by decide +kernel
@[simp] theorem sb_29_32 : (("nought" : Str) == "pick") = false := by decide +kernel
@[simp] theorem sn_29_33 : ¬ (("nought" : Str) = "raise") := by decide +kernel
@[simp] theorem sb_29_33 : (("nought" : Str) == "raise") = false := by decide +kernel
@[simp] theorem sn_29_34 : ¬ (("nought" : Str) = "refused") := by decide +kernel
@[simp] theorem sb_29_34 : (("nought" : Str) == "refused") = false := by decide +kernel
@[simp] theorem sn_29_35 : ¬ (("nought" : Str) = "root") := by decide +kernel
@[simp] theorem sb_29_35 : (("nought" : Str) == "root") = false := by decide +kernel
@[simp] theorem sn_29_36 : ¬ (("nought" : Str) = "told") := by decide +kernel
@[simp] theorem sb_29_36 : (("nought" : Str) == "told") = false := by decide +kernel
@[simp] theorem sn_29_37 : ¬ (("nought" : Str) = "truth") := by decide +kernel
@[simp] theorem sb_29_37 : (("nought" : Str) == "truth") = false := by decide +kernel
@[simp] theorem sn_29_38 : ¬ (("nought" : Str) = "try") := by decide +kernel
@[simp] theorem sb_29_38 : (("nought" : Str) == "try") = false := by decide +kernel
@[simp] theorem sn_30_0 : ¬ (("number" : Str) = "") := by decide +kernel
@[simp] theorem sb_30_0 : (("number" : Str) == "") = false := by decide +kernel
@[simp] theorem sn_30_1 : ¬ (("number" : Str) = "+-*/<=") := by decide +kernel
@[simp] theorem sb_30_1 : (("number" : Str) == "+-*/<=") = false := by decide +kernel
@[simp] theorem sn_30_2 : ¬ (("number" : Str) = "0") := by decide +kernel
@[simp] theorem sb_30_2 : (("number" : Str) == "0") = false := by decide +kernel
@[simp] theorem sn_30_3 : ¬ (("number" : Str) = "0123456789") := by decide +kernel
@[simp] theorem sb_30_3 : (("number" : Str) == "0123456789") = false := by decide +kernel
@[simp] theorem sn_30_4 : ¬ (("number" : Str) = "1") := by decide +kernel
@[simp] theorem sb_30_4 : (("number" : Str) == "1") = false := by decide +kernel
@[simp] theorem sn_30_5 : ¬ (("number" : Str) = "10") := by decide +kernel
@[simp] theorem sb_30_5 : (("number" : Str) == "10") = false := by decide +kernel
@[simp] theorem sn_30_6 : ¬ (("number" : Str) = "100") := by decide +kernel
@[simp] theorem sb_30_6 : (("number" : Str) == "100") = false := by decide +kernel
@[simp] theorem sn_30_7 : ¬ (("number" : Str) = "11") := by decide +kernel
@[simp] theorem sb_30_7 : (("number" : Str) == "11") = false := by decide +kernel
@[simp] theorem sn_30_8 : ¬ (("number" : Str) = "12") := by decide +kernel
@[simp] theorem sb_30_8 : (("number" : Str) == "12") = false := by decide +kernel
@[simp] theorem sn_30_9 : ¬ (("number" : Str) = "2") := by decide +kernel
@[simp] theorem sb_30_9 : (("number" : Str) == "2") = false := by decide +kernel
@[simp] theorem sn_30_10 : ¬ (("number" : Str) = "20") := by decide +kernel
@[simp] theorem sb_30_10 : (("number" : Str) == "20") = false := by decide +kernel
@[simp] theorem sn_30_11 : ¬ (("number" : Str) = "21") := by decide +kernel
@[simp] theorem sb_30_11 : (("number" : Str) == "21") = false := by decide +kernel
@[simp] theorem sn_30_12 : ¬ (("number" : Str) = "3") := by decide +kernel
@[simp] theorem sb_30_12 : (("number" : Str) == "3") = false := by decide +kernel
@[simp] theorem sn_30_13 : ¬ (("number" : Str) = "9") := by decide +kernel
@[simp] theorem sb_30_13 : (("number" : Str) == "9") = false := by decide +kernel
@[simp] theorem sn_30_14 : ¬ (("number" : Str) = "999") := by decide +kernel
@[simp] theorem sb_30_14 : (("number" : Str) == "999") = false := by decide +kernel
@[simp] theorem sn_30_15 : ¬ (("number" : Str) = "abcdefghijklmnopqrstuvwxyz") := by decide +kernel
@[simp] theorem sb_30_15 : (("number" : Str) == "abcdefghijklmnopqrstuvwxyz") = false := by decide +kernel
@[simp] theorem sn_30_16 : ¬ (("number" : Str) = "call") := by decide +kernel
@[simp] theorem sb_30_16 : (("number" : Str) == "call") = false := by decide +kernel
@[simp] theorem sn_30_17 : ¬ (("number" : Str) = "do") := by decide +kernel
@[simp] theorem sb_30_17 : (("number" : Str) == "do") = false := by decide +kernel
@[simp] theorem sn_30_18 : ¬ (("number" : Str) = "dry") := by decide +kernel
@[simp] theorem sb_30_18 : (("number" : Str) == "dry") = false := by decide +kernel
@[simp] theorem sn_30_19 : ¬ (("number" : Str) = "far") := by decide +kernel
@[simp] theorem sb_30_19 : (("number" : Str) == "far") = false := by decide +kernel
@[simp] theorem sn_30_20 : ¬ (("number" : Str) = "if") := by decide +kernel
@[simp] theorem sb_30_20 : (("number" : Str) == "if") = false := by decide +kernel
@[simp] theorem sn_30_21 : ¬ (("number" : Str) = "kind") := by decide +kernel
@[simp] theorem sb_30_21 : (("number" : Str) == "kind") = false := by decide +kernel
@[simp] theorem sn_30_22 : ¬ (("number" : Str) = "lack") := by decide +kernel
@[simp] theorem sb_30_22 : (("number" : Str) == "lack") = false := by decide +kernel
@[simp] theorem sn_30_23 : ¬ (("number" : Str) = "let") := by decide +kernel
@[simp] theorem sb_30_23 : (("number" : Str) == "let") = false := by decide +kernel
@[simp] theorem sn_30_24 : ¬ (("number" : Str) = "loop") := by decide +kernel
@[simp] theorem sb_30_24 : (("number" : Str) == "loop") = false := by decide +kernel
@[simp] theorem sn_30_25 : ¬ (("number" : Str) = "many") := by decide +kernel
@[simp] theorem sb_30_25 : (("number" : Str) == "many") = false := by decide +kernel
@[simp] theorem sn_30_26 : ¬ (("number" : Str) = "mark") := by decide +kernel
@[simp] theorem sb_30_26 : (("number" : Str) == "mark") = false := by decide +kernel
@[simp] theorem sn_30_27 : ¬ (("number" : Str) = "melt") := by decide +kernel
@[simp] theorem sb_30_27 : (("number" : Str) == "melt") = false := by decide +kernel
@[simp] theorem sn_30_28 : ¬ (("number" : Str) = "name") := by decide +kernel
@[simp] theorem sb_30_28 : (("number" : Str) == "name") = false := by decide +kernel
@[simp] theorem sn_30_29 : ¬ (("number" : Str) = "nought") := by decide +kernel
@[simp] theorem sb_30_29 : (("number" : Str) == "nought") = false := by decide +kernel
@[simp] theorem sn_30_31 : ¬ (("number" : Str) = "parts") := by decide +kernel
@[simp] theorem sb_30_31 : (("number" : Str) == "parts") = false := by decide +kernel
@[simp] theorem sn_30_32 : ¬ (("number" : Str) = "pick") := by decide +kernel
@[simp] theorem sb_30_32 : (("number" : Str) == "pick") = false := by decide +kernel
@[simp] theorem sn_30_33 : ¬ (("number" : Str) = "raise") := by decide +kernel
@[simp] theorem sb_30_33 : (("number" : Str) == "raise") = false := by decide +kernel
@[simp] theorem sn_30_34 : ¬ (("number" : Str) = "refused") := by decide +kernel
@[simp] theorem sb_30_34 : (("number" : Str) == "refused") = false := by decide +kernel
@[simp] theorem sn_30_35 : ¬ (("number" : Str) = "root") := by decide +kernel
@[simp] theorem sb_30_35 : (("number" : Str) == "root") = false := by decide +kernel
@[simp] theorem sn_30_36 : ¬ (("number" : Str) = "told") := by decide +kernel
@[simp] theorem sb_30_36 : (("number" : Str) == "told") = false := by decide +kernel
@[simp] theorem sn_30_37 : ¬ (("number" : Str) = "truth") := by decide +kernel
@[simp] theorem sb_30_37 : (("number" : Str) == "truth") = false := by decide +kernel
@[simp] theorem sn_30_38 : ¬ (("number" : Str) = "try") := by decide +kernel
@[simp] theorem sb_30_38 : (("number" : Str) == "try") = false := by decide +kernel
@[simp] theorem sn_31_0 : ¬ (("parts" : Str) = "") := by decide +kernel
@[simp] theorem sb_31_0 : (("parts" : Str) == "") = false := by decide +kernel
@[simp] theorem sn_31_1 : ¬ (("parts" : Str) = "+-*/<=") := by decide +kernel
@[simp] theorem sb_31_1 : (("parts" : Str) == "+-*/<=") = false := by decide +kernel
@[simp] theorem sn_31_2 : ¬ (("parts" : Str) = "0") := by decide +kernel
@[simp] theorem sb_31_2 : (("parts" : Str) == "0") = false := by decide +kernel
@[simp] theorem sn_31_3 : ¬ (("parts" : Str) = "0123456789") := by decide +kernel
@[simp] theorem sb_31_3 : (("parts" : Str) == "0123456789") = false := by decide +kernel
@[simp] theorem sn_31_4 : ¬ (("parts" : Str) = "1") := by decide +kernel
@[simp] theorem sb_31_4 : (("parts" : Str) == "1") = false := by decide +kernel
@[simp] theorem sn_31_5 : ¬ (("parts" : Str) = "10") := by decide +kernel
@[simp] theorem sb_31_5 : (("parts" : Str) == "10") = false := by decide +kernel
@[simp] theorem sn_31_6 : ¬ (("parts" : Str) = "100") := by decide +kernel
@[simp] theorem sb_31_6 : (("parts" : Str) == "100") = false := by decide +kernel
@[simp] theorem sn_31_7 : ¬ (("parts" : Str) = "11") := by decide +kernel
@[simp] theorem sb_31_7 : (("parts" : Str) == "11") = false := by decide +kernel
@[simp] theorem sn_31_8 : ¬ (("parts" : Str) = "12") := by decide +kernel
@[simp] theorem sb_31_8 : (("parts" : Str) == "12") = false := by decide +kernel
@[simp] theorem sn_31_9 : ¬ (("parts" : Str) = "2") := by decide +kernel
@[simp] theorem sb_31_9 : (("parts" : Str) == "2") = false := by decide +kernel
@[simp] theorem sn_31_10 : ¬ (("parts" : Str) = "20") := by decide +kernel
@[simp] theorem sb_31_10 : (("parts" : Str) == "20") = false := by decide +kernel
@[simp] theorem sn_31_11 : ¬ (("parts" : Str) = "21") := by decide +kernel
@[simp] theorem sb_31_11 : (("parts" : Str) == "21") = false := by decide +kernel
@[simp] theorem sn_31_12 : ¬ (("parts" : Str) = "3") := by decide +kernel
@[simp] theorem sb_31_12 : (("parts" : Str) == "3") = false := by decide +kernel
@[simp] theorem sn_31_13 : ¬ (("parts" : Str) = "9") := by decide +kernel
@[simp] theorem sb_31_13 : (("parts" : Str) == "9") = false := by decide +kernel
@[simp] theorem sn_31_14 : ¬ (("parts" : Str) = "999") := by decide +kernel
@[simp] theorem sb_31_14 : (("parts" : Str) == "999") = false := by decide +kernel
@[simp] theorem sn_31_15 : ¬ (("parts" : Str) = "abcdefghijklmnopqrstuvwxyz") := by decide +kernel
@[simp] theorem sb_31_15 : (("parts" : Str) == "abcdefghijklmnopqrstuvwxyz") = false := by decide +kernel
@[simp] theorem sn_31_16 : ¬ (("parts" : Str) = "call") := by decide +kernel
@[simp] theorem sb_31_16 : (("parts" : Str) == "call") = false := by decide +kernel
@[simp] theorem sn_31_17 : ¬ (("parts" : Str) = "do") := by decide +kernel
@[simp] theorem sb_31_17 : (("parts" : Str) == "do") = false := by decide +kernel
@[simp] theorem sn_31_18 : ¬ (("parts" : Str) = "dry") := by decide +kernel
@[simp] theorem sb_31_18 : (("parts" : Str) == "dry") = false := by decide +kernel
@[simp] theorem sn_31_19 : ¬ (("parts" : Str) = "far") := by decide +kernel
@[simp] theorem sb_31_19 : (("parts" : Str) == "far") = false := by decide +kernel
@[simp] theorem sn_31_20 : ¬ (("parts" : Str) = "if") := by decide +kernel
@[simp] theorem sb_31_20 : (("parts" : Str) == "if") = false := by decide +kernel
@[simp] theorem sn_31_21 : ¬ (("parts" : Str) = "kind") := by decide +kernel
@[simp] theorem sb_31_21 : (("parts" : Str) == "kind") = false := by decide +kernel
@[simp] theorem sn_31_22 : ¬ (("parts" : Str) = "lack") := by decide +kernel
@[simp] theorem sb_31_22 : (("parts" : Str) == "lack") = false := by decide +kernel
@[simp] theorem sn_31_23 : ¬ (("parts" : Str) = "let") := by decide +kernel
@[simp] theorem sb_31_23 : (("parts" : Str) == "let") = false := by decide +kernel
@[simp] theorem sn_31_24 : ¬ (("parts" : Str) = "loop") := by decide +kernel
@[simp] theorem sb_31_24 : (("parts" : Str) == "loop") = false := by decide +kernel
@[simp] theorem sn_31_25 : ¬ (("parts" : Str) = "many") := by decide +kernel
@[simp] theorem sb_31_25 : (("parts" : Str) == "many") = false := by decide +kernel
@[simp] theorem sn_31_26 : ¬ (("parts" : Str) = "mark") := by decide +kernel
@[simp] theorem sb_31_26 : (("parts" : Str) == "mark") = false := by decide +kernel
@[simp] theorem sn_31_27 : ¬ (("parts" : Str) = "melt") := by decide +kernel
@[simp] theorem sb_31_27 : (("parts" : Str) == "melt") = false := by decide +kernel
@[simp] theorem sn_31_28 : ¬ (("parts" : Str) = "name") := by decide +kernel
@[simp] theorem sb_31_28 : (("parts" : Str) == "name") = false := by decide +kernel
@[simp] theorem sn_31_29 : ¬ (("parts" : Str) = "nought") := by decide +kernel
@[simp] theorem sb_31_29 : (("parts" : Str) == "nought") = false := by decide +kernel
@[simp] theorem sn_31_30 : ¬ (("parts" : Str) = "number") := by decide +kernel
@[simp] theorem sb_31_30 : (("parts" : Str) == "number") = false := by decide +kernel
@[simp] theorem sn_31_32 : ¬ (("parts" : Str) = "pick") := by decide +kernel
@[simp] theorem sb_31_32 : (("parts" : Str) == "pick") = false := by decide +kernel
@[simp] theorem sn_31_33 : ¬ (("parts" : Str) = "raise") := by decide +kernel
@[simp] theorem sb_31_33 : (("parts" : Str) == "raise") = false := by decide +kernel
@[simp] theorem sn_31_34 : ¬ (("parts" : Str) = "refused") := by decide +kernel
@[simp] theorem sb_31_34 : (("parts" : Str) == "refused") = false := by decide +kernel
@[simp] theorem sn_31_35 : ¬ (("parts" : Str) = "root") := by decide +kernel
@[simp] theorem sb_31_35 : (("parts" : Str) == "root") = false := by decide +kernel
@[simp] theorem sn_31_36 : ¬ (("parts" : Str) = "told") := by decide +kernel
@[simp] theorem sb_31_36 : (("parts" : Str) == "told") = false := by decide +kernel
@[simp] theorem sn_31_37 : ¬ (("parts" : Str) = "truth") := by decide +kernel
@[simp] theorem sb_31_37 : (("parts" : Str) == "truth") = false := by decide +kernel
@[simp] theorem sn_31_38 : ¬ (("parts" : Str) = "try") := by decide +kernel
@[simp] theorem sb_31_38 : (("parts" : Str) == "try") = false := by decide +kernel
@[simp] theorem sn_32_0 : ¬ (("pick" : Str) = "") := by decide +kernel
@[simp] theorem sb_32_0 : (("pick" : Str) == "") = false := by decide +kernel
@[simp] theorem sn_32_1 : ¬ (("pick" : Str) = "+-*/<=") := by decide +kernel
@[simp] theorem sb_32_1 : (("pick" : Str) == "+-*/<=") = false := by decide +kernel
@[simp] theorem sn_32_2 : ¬ (("pick" : Str) = "0") := by decide +kernel
@[simp] theorem sb_32_2 : (("pick" : Str) == "0") = false := by decide +kernel
@[simp] theorem sn_32_3 : ¬ (("pick" : Str) = "0123456789") := by decide +kernel
@[simp] theorem sb_32_3 : (("pick" : Str) == "0123456789") = false := by decide +kernel
@[simp] theorem sn_32_4 : ¬ (("pick" : Str) = "1") := by decide +kernel
@[simp] theorem sb_32_4 : (("pick" : Str) == "1") = false := by decide +kernel
@[simp] theorem sn_32_5 : ¬ (("pick" : Str) = "10") := by decide +kernel
@[simp] theorem sb_32_5 : (("pick" : Str) == "10") = false := by decide +kernel
@[simp] theorem sn_32_6 : ¬ (("pick" : Str) = "100") := by decide +kernel
@[simp] theorem sb_32_6 : (("pick" : Str) == "100") = false := by decide +kernel
@[simp] theorem sn_32_7 : ¬ (("pick" : Str) = "11") := by decide +kernel
@[simp] theorem sb_32_7 : (("pick" : Str) == "11") = false := by decide +kernel
@[simp] theorem sn_32_8 : ¬ (("pick" : Str) = "12") := by decide +kernel
@[simp] theorem sb_32_8 : (("pick" : Str) == "12") = false := by decide +kernel
@[simp] theorem sn_32_9 : ¬ (("pick" : Str) = "2") := by decide +kernel
@[simp] theorem sb_32_9 : (("pick" : Str) == "2") = false := by decide +kernel
@[simp] theorem sn_32_10 : ¬ (("pick" : Str) = "20") := by decide +kernel
@[simp] theorem sb_32_10 : (("pick" : Str) == "20") = false := by decide +kernel
@[simp] theorem sn_32_11 : ¬ (("pick" : Str) = "21") := by decide +kernel
@[simp] theorem sb_32_11 : (("pick" : Str) == "21") = false := by decide +kernel
@[simp] theorem sn_32_12 : ¬ (("pick" : Str) = "3") := by decide +kernel
@[simp] theorem sb_32_12 : (("pick" : Str) == "3") = false := by decide +kernel
@[simp] theorem sn_32_13 : ¬ (("pick" : Str) = "9") := by decide +kernel
@[simp] theorem sb_32_13 : (("pick" : Str) == "9") = false := by decide +kernel
@[simp] theorem sn_32_14 : ¬ (("pick" : Str) = "999") := by decide +kernel
@[simp] theorem sb_32_14 : (("pick" : Str) == "999") = false := by decide +kernel
@[simp] theorem sn_32_15 : ¬ (("pick" : Str) = "abcdefghijklmnopqrstuvwxyz") := by decide +kernel
@[simp] theorem sb_32_15 : (("pick" : Str) == "abcdefghijklmnopqrstuvwxyz") = false := by decide +kernel
@[simp] theorem sn_32_16 : ¬ (("pick" : Str) = "call") := by decide +kernel
@[simp] theorem sb_32_16 : (("pick" : Str) == "call") = false := by decide +kernel
@[simp] theorem sn_32_17 : ¬ (("pick" : Str) = "do") := by decide +kernel
@[simp] theorem sb_32_17 : (("pick" : Str) == "do") = false := by decide +kernel
@[simp] theorem sn_32_18 : ¬ (("pick" : Str) = "dry") := by decide +kernel
@[simp] theorem sb_32_18 : (("pick" : Str) == "dry") = false := by decide +kernel
@[simp] theorem sn_32_19 : ¬ (("pick" : Str) = "far") := by decide +kernel
@[simp] theorem sb_32_19 : (("pick" : Str) == "far") = false := by decide +kernel
@[simp] theorem sn_32_20 : ¬ (("pick" : Str) = "if") := by decide +kernel
@[simp] theorem sb_32_20 : (("pick" : Str) == "if") = false := by decide +kernel
@[simp] theorem sn_32_21 : ¬ (("pick" : Str) = "kind") := by decide +kernel
@[simp] theorem sb_32_21 : (("pick" : Str) == "kind") = false := by decide +kernel
@[simp] theorem sn_32_22 : ¬ (("pick" : Str) = "lack") := by decide +kernel
@[simp] theorem sb_32_22 : (("pick" : Str) == "lack") = false := by decide +kernel
@[simp] theorem sn_32_23 : ¬ (("pick" : Str) = "let") := by decide +kernel
@[simp] theorem sb_32_23 : (("pick" : Str) == "let") = false := by decide +kernel
@[simp] theorem sn_32_24 : ¬ (("pick" : Str) = "loop") := by decide +kernel
@[simp] theorem sb_32_24 : (("pick" : Str) == "loop") = false := by decide +kernel
@[simp] theorem sn_32_25 : ¬ (("pick" : Str) = "many") := by decide +kernel
@[simp] theorem sb_32_25 : (("pick" : Str) == "many") = false := by decide +kernel
@[simp] theorem sn_32_26 : ¬ (("pick" : Str) = "mark") := by decide +kernel
@[simp] theorem sb_32_26 : (("pick" : Str) == "mark") = false := by decide +kernel
@[simp] theorem sn_32_27 : ¬ (("pick" : Str) = "melt") := by decide +kernel
@[simp] theorem sb_32_27 : (("pick" : Str) == "melt") = false := by decide +kernel
@[simp] theorem sn_32_28 : ¬ (("pick" : Str) = "name") := by decide +kernel
@[simp] theorem sb_32_28 : (("pick" : Str) == "name") = false := by decide +kernel
@[simp] theorem sn_32_29 : ¬ (("pick" : Str) = "nought") := by decide +kernel
@[simp] theorem sb_32_29 : (("pick" : Str) == "nought") = false := by decide +kernel
@[simp] theorem sn_32_30 : ¬ (("pick" : Str) = "number") := by decide +kernel
@[simp] theorem sb_32_30 : (("pick" : Str) == "number") = false := by decide +kernel
@[simp] theorem sn_32_31 : ¬ (("pick" : Str) = "parts") := by decide +kernel
@[simp] theorem sb_32_31 : (("pick" : Str) == "parts") = false := by decide +kernel
@[simp] theorem sn_32_33 : ¬ (("pick" : Str) = "raise") := by decide +kernel
@[simp] theorem sb_32_33 : (("pick" : Str) == "raise") = false := by decide +kernel
@[simp] theorem sn_32_34 : ¬ (("pick" : Str) = "refused") := by decide +kernel
@[simp] theorem sb_32_34 : (("pick" : Str) == "refused") = false := by decide +kernel
@[simp] theorem sn_32_35 : ¬ (("pick" : Str) = "root") := by decide +kernel
@[simp] theorem sb_32_35 : (("pick" : Str) == "root") = false := by decide +kernel
@[simp] theorem sn_32_36 : ¬ (("pick" : Str) = "told") := by decide +kernel
@[simp] theorem sb_32_36 : (("pick" : Str) == "told") = false := by decide +kernel
@[simp] theorem sn_32_37 : ¬ (("pick" : Str) = "truth") := by decide +kernel
@[simp] theorem sb_32_37 : (("pick" : Str) == "truth") = false := by decide +kernel
@[simp] theorem sn_32_38 : ¬ (("pick" : Str) = "try") := by decide +kernel
@[simp] theorem sb_32_38 : (("pick" : Str) == "try") = false := by decide +kernel
@[simp] theorem sn_33_0 : ¬ (("raise" : Str) = "") := by decide +kernel
@[simp] theorem sb_33_0 : (("raise" : Str) == "") = false := by decide +kernel
@[simp] theorem sn_33_1 : ¬ (("raise" : Str) = "+-*/<=") := by decide +kernel
@[simp] theorem sb_33_1 : (("raise" : Str) == "+-*/<=") = false := by decide +kernel
@[simp] theorem sn_33_2 : ¬ (("raise" : Str) = "0") := by decide +kernel
@[simp] theorem sb_33_2 : (("raise" : Str) == "0") = false := by decide +kernel
@[simp] theorem sn_33_3 : ¬ (("raise" : Str) = "0123456789") := by decide +kernel
@[simp] theorem sb_33_3 : (("raise" : Str) == "0123456789") = false := by decide +kernel
@[simp] theorem sn_33_4 : ¬ (("raise" : Str) = "1") := by decide +kernel
@[simp] theorem sb_33_4 : (("raise" : Str) == "1") = false := by decide +kernel
@[simp] theorem sn_33_5 : ¬ (("raise" : Str) = "10") := by decide +kernel
@[simp] theorem sb_33_5 : (("raise" : Str) == "10") = false := by decide +kernel
@[simp] theorem sn_33_6 : ¬ (("raise" : Str) = "100") := by decide +kernel
@[simp] theorem sb_33_6 : (("raise" : Str) == "100") = false := by decide +kernel
@[simp] theorem sn_33_7 : ¬ (("raise" : Str) = "11") := by decide +kernel
@[simp] theorem sb_33_7 : (("raise" : Str) == "11") = false := by decide +kernel
@[simp] theorem sn_33_8 : ¬ (("raise" : Str) = "12") := by decide +kernel
@[simp] theorem sb_33_8 : (("raise" : Str) == "12") = false := by decide +kernel
@[simp] theorem sn_33_9 : ¬ (("raise" : Str) = "2") := by decide +kernel
@[simp] theorem sb_33_9 : (("raise" : Str) == "2") = false := by decide +kernel
@[simp] theorem sn_33_10 : ¬ (("raise" : Str) = "20") := by decide +kernel
@[simp] theorem sb_33_10 : (("raise" : Str) == "20") = false := by decide +kernel
@[simp] theorem sn_33_11 : ¬ (("raise" : Str) = "21") := by decide +kernel
@[simp] theorem sb_33_11 : (("raise" : Str) == "21") = false := by decide +kernel
@[simp] theorem sn_33_12 : ¬ (("raise" : Str) = "3") := by decide +kernel
@[simp] theorem sb_33_12 : (("raise" : Str) == "3") = false := by decide +kernel
@[simp] theorem sn_33_13 : ¬ (("raise" : Str) = "9") := by decide +kernel
@[simp] theorem sb_33_13 : (("raise" : Str) == "9") = false := by decide +kernel
@[simp] theorem sn_33_14 : ¬ (("raise" : Str) = "999") := by decide +kernel
@[simp] theorem sb_33_14 : (("raise" : Str) == "999") = false := by decide +kernel
@[simp] theorem sn_33_15 : ¬ (("raise" : Str) = "abcdefghijklmnopqrstuvwxyz") := by decide +kernel
@[simp] theorem sb_33_15 : (("raise" : Str) == "abcdefghijklmnopqrstuvwxyz") = false := by decide +kernel
@[simp] theorem sn_33_16 : ¬ (("raise" : Str) = "call") := by decide +kernel
@[simp] theorem sb_33_16 : (("raise" : Str) == "call") = false := by decide +kernel
@[simp] theorem sn_33_17 : ¬ (("raise" : Str) = "do") := by decide +kernel
@[simp] theorem sb_33_17 : (("raise" : Str) == "do") = false := by decide +kernel
@[simp] theorem sn_33_18 : ¬ (("raise" : Str) = "dry") := by decide +kernel
@[simp] theorem sb_33_18 : (("raise" : Str) == "dry") = false := by decide +kernel
@[simp] theorem sn_33_19 : ¬ (("raise" : Str) = "far") := by decide +kernel
@[simp] theorem sb_33_19 : (("raise" : Str) == "far") = false := by decide +kernel
@[simp] theorem sn_33_20 : ¬ (("raise" : Str) = "if") := by decide +kernel
@[simp] theorem sb_33_20 : (("raise" : Str) == "if") = false := by decide +kernel
@[simp] theorem sn_33_21 : ¬ (("raise" : Str) = "kind") := by decide +kernel
@[simp] theorem sb_33_21 : (("raise" : Str) == "kind") = false := by decide +kernel
@[simp] theorem sn_33_22 : ¬ (("raise" : Str) = "lack") := by decide +kernel
@[simp] theorem sb_33_22 : (("raise" : Str) == "lack") = false := by decide +kernel
@[simp] theorem sn_33_23 : ¬ (("raise" : Str) = "let") := by decide +kernel
@[simp] theorem sb_33_23 : (("raise" : Str) == "let") = false := by decide +kernel
@[simp] theorem sn_33_24 : ¬ (("raise" : Str) = "loop") := by decide +kernel
@[simp] theorem sb_33_24 : (("raise" : Str) == "loop") = false := by decide +kernel
@[simp] theorem sn_33_25 : ¬ (("raise" : Str) = "many") := by decide +kernel
@[simp] theorem sb_33_25 : (("raise" : Str) == "many") = false := by decide +kernel
@[simp] theorem sn_33_26 : ¬ (("raise" : Str) = "mark") := by decide +kernel
@[simp] theorem sb_33_26 : (("raise" : Str) == "mark") = false := by decide +kernel
@[simp] theorem sn_33_27 : ¬ (("raise" : Str) = "melt") := by decide +kernel
@[simp] theorem sb_33_27 : (("raise" : Str) == "melt") = false := by decide +kernel
@[simp] theorem sn_33_28 : ¬ (("raise" : Str) = "name") := by decide +kernel
@[simp] theorem sb_33_28 : (("raise" : Str) == "name") = false := by decide +kernel
@[simp] theorem sn_33_29 : ¬ (("raise" : Str) = "nought") := by decide +kernel
@[simp] theorem sb_33_29 : (("raise" : Str) == "nought") = false := by decide +kernel
@[simp] theorem sn_33_30 : ¬ (("raise" : Str) = "number") := by decide +kernel
@[simp] theorem sb_33_30 : (("raise" : Str) == "number") = false := by decide +kernel
@[simp] theorem sn_33_31 : ¬ (("raise" : Str) = "parts") := by decide +kernel
@[simp] theorem sb_33_31 : (("raise" : Str) == "parts") = false := by decide +kernel
@[simp] theorem sn_33_32 : ¬ (("raise" : Str) = "pick") := by decide +kernel
@[simp] theorem sb_33_32 : (("raise" : Str) == "pick") = false := by decide +kernel
@[simp] theorem sn_33_34 : ¬ (("raise" : Str) = "refused") := by decide +kernel
@[simp] theorem sb_33_34 : (("raise" : Str) == "refused") = false := by decide +kernel
@[simp] theorem sn_33_35 : ¬ (("raise" : Str) = "root") := by decide +kernel
@[simp] theorem sb_33_35 : (("raise" : Str) == "root") = false := by decide +kernel
@[simp] theorem sn_33_36 : ¬ (("raise" : Str) = "told") := by decide +kernel
@[simp] theorem sb_33_36 : (("raise" : Str) == "told") = false := by decide +kernel
@[simp] theorem sn_33_37 : ¬ (("raise" : Str) = "truth") := by decide +kernel
@[simp] theorem sb_33_37 : (("raise" : Str) == "truth") = false := by decide +kernel
@[simp] theorem sn_33_38 : ¬ (("raise" : Str) = "try") := by decide +kernel
@[simp] theorem sb_33_38 : (("raise" : Str) == "try") = false := by decide +kernel
@[simp] theorem sn_34_0 : ¬ (("refused" : Str) = "") := by decide +kernel
@[simp] theorem sb_34_0 : (("refused" : Str) == "") = false := by decide +kernel
@[simp] theorem sn_34_1 : ¬ (("refused" : Str) = "+-*/<=") := by decide +kernel
@[simp] theorem sb_34_1 : (("refused" : Str) == "+-*/<=") = false := by decide +kernel
@[simp] theorem sn_34_2 : ¬ (("refused" : Str) = "0") := by decide +kernel
@[simp] theorem sb_34_2 : (("refused" : Str) == "0") = false := by decide +kernel
@[simp] theorem sn_34_3 : ¬ (("refused" : Str) = "0123456789") := by decide +kernel
@[simp] theorem sb_34_3 : (("refused" : Str) == "0123456789") = false := by decide +kernel
@[simp] theorem sn_34_4 : ¬ (("refused" : Str) = "1") := by decide +kernel
@[simp] theorem sb_34_4 : (("refused" : Str) == "1") = false := by decide +kernel
@[simp] theorem sn_34_5 : ¬ (("refused" : Str) = "10") := by decide +kernel
@[simp] theorem sb_34_5 : (("refused" : Str) == "10") = false := by decide +kernel
@[simp] theorem sn_34_6 : ¬ (("refused" : Str) = "100") := by decide +kernel
@[simp] theorem sb_34_6 : (("refused" : Str) == "100") = false := by decide +kernel
@[simp] theorem sn_34_7 : ¬ (("refused" : Str) = "11") := by decide +kernel
@[simp] theorem sb_34_7 : (("refused" : Str) == "11") = false := by decide +kernel
@[simp] theorem sn_34_8 : ¬ (("refused" : Str) = "12") := by decide +kernel
@[simp] theorem sb_34_8 : (("refused" : Str) == "12") = false := by decide +kernel
@[simp] theorem sn_34_9 : ¬ (("refused" : Str) = "2") := by decide +kernel
@[simp] theorem sb_34_9 : (("refused" : Str) == "2") = false := by decide +kernel
@[simp] theorem sn_34_10 : ¬ (("refused" : Str) = "20") := by decide +kernel
@[simp] theorem sb_34_10 : (("refused" : Str) == "20") = false := by decide +kernel
@[simp] theorem sn_34_11 : ¬ (("refused" : Str) = "21") := by decide +kernel
@[simp] theorem sb_34_11 : (("refused" : Str) == "21") = false := by decide +kernel
@[simp] theorem sn_34_12 : ¬ (("refused" : Str) = "3") := by decide +kernel
@[simp] theorem sb_34_12 : (("refused" : Str) == "3") = false := by decide +kernel
@[simp] theorem sn_34_13 : ¬ (("refused" : Str) = "9") := by decide +kernel
@[simp] theorem sb_34_13 : (("refused" : Str) == "9") = false := by decide +kernel
@[simp] theorem sn_34_14 : ¬ (("refused" : Str) = "999") := by decide +kernel
@[simp] theorem sb_34_14 : (("refused" : Str) == "999") = false := by decide +kernel
@[simp] theorem sn_34_15 : ¬ (("refused" : Str) = "abcdefghijklmnopqrstuvwxyz") := by decide +kernel
@[simp] theorem sb_34_15 : (("refused" : Str) == "abcdefghijklmnopqrstuvwxyz") = false := by decide +kernel
@[simp] theorem sn_34_16 : ¬ (("refused" : Str) = "call") := by decide +kernel
@[simp] theorem sb_34_16 : (("refused" : Str) == "call") = false := by decide +kernel
@[simp] theorem sn_34_17 : ¬ (("refused" : Str) = "do") := by decide +kernel
@[simp] theorem sb_34_17 : (("refused" : Str) == "do") = false := by decide +kernel
@[simp] theorem sn_34_18 : ¬ (("refused" : Str) = "dry") := by decide +kernel
@[simp] theorem sb_34_18 : (("refused" : Str) == "dry") = false := by decide +kernel
@[simp] theorem sn_34_19 : ¬ (("refused" : Str) = "far") := by decide +kernel
@[simp] theorem sb_34_19 : (("refused" : Str) == "far") = false := by decide +kernel
@[simp] theorem sn_34_20 : ¬ (("refused" : Str) = "if") := by decide +kernel
@[simp] theorem sb_34_20 : (("refused" : Str) == "if") = false := by decide +kernel
@[simp] theorem sn_34_21 : ¬ (("refused" : Str) = "kind") := by decide +kernel
@[simp] theorem sb_34_21 : (("refused" : Str) == "kind") = false := by decide +kernel
@[simp] theorem sn_34_22 : ¬ (("refused" : Str) = "lack") := by decide +kernel
@[simp] theorem sb_34_22 : (("refused" : Str) == "lack") = false := by decide +kernel
@[simp] theorem sn_34_23 : ¬ (("refused" : Str) = "let") := by decide +kernel
@[simp] theorem sb_34_23 : (("refused" : Str) == "let") = false := by decide +kernel
@[simp] theorem sn_34_24 : ¬ (("refused" : Str) = "loop") := by decide +kernel
@[simp] theorem sb_34_24 : (("refused" : Str) == "loop") = false := by decide +kernel
@[simp] theorem sn_34_25 : ¬ (("refused" : Str) = "many") := by decide +kernel
@[simp] theorem sb_34_25 : (("refused" : Str) == "many") = false := by decide +kernel
@[simp] theorem sn_34_26 : ¬ (("refused" : Str) = "mark") := by decide +kernel
@[simp] theorem sb_34_26 : (("refused" : Str) == "mark") = false := by decide +kernel
@[simp] theorem sn_34_27 : ¬ (("refused" : Str) = "melt") := by decide +kernel
@[simp] theorem sb_34_27 : (("refused" : Str) == "melt") = false := by decide +kernel
@[simp] theorem sn_34_28 : ¬ (("refused" : Str) = "name") := by decide +kernel
@[simp] theorem sb_34_28 : (("refused" : Str) == "name") = false := by decide +kernel
@[simp] theorem sn_34_29 : ¬ (("refused" : Str) = "nought") := by decide +kernel
@[simp] theorem sb_34_29 : (("refused" : Str) == "nought") = false := by decide +kernel
@[simp] theorem sn_34_30 : ¬ (("refused" : Str) = "number") := by decide +kernel
@[simp] theorem sb_34_30 : (("refused" : Str) == "number") = false := by decide +kernel
@[simp] theorem sn_34_31 : ¬ (("refused" : Str) = "parts") := by decide +kernel
@[simp] theorem sb_34_31 : (("refused" : Str) == "parts") = false := by decide +kernel
@[simp] theorem sn_34_32 : ¬ (("refused" : Str) = "pick") := by decide +kernel
@[simp] theorem sb_34_32 : (("refused" : Str) == "pick") = false := by decide +kernel
@[simp] theorem sn_34_33 : ¬ (("refused" : Str) = "raise") := by decide +kernel
@[simp] theorem sb_34_33 : (("refused" : Str) == "raise") = false := by decide +kernel
@[simp] theorem sn_34_35 : ¬ (("refused" : Str) = "root") := by decide +kernel
@[simp] theorem sb_34_35 : (("refused" : Str) == "root") = false := by decide +kernel
@[simp] theorem sn_34_36 : ¬ (("refused" : Str) = "told") := by decide +kernel
@[simp] theorem sb_34_36 : (("refused" : Str) == "told") = false := by decide +kernel
@[simp] theorem sn_34_37 : ¬ (("refused" : Str) = "truth") := by decide +kernel
@[simp] theorem sb_34_37 : (("refused" : Str) == "truth") = false := by decide +kernel
@[simp] theorem sn_34_38 : ¬ (("refused" : Str) = "try") := by decide +kernel
@[simp] theorem sb_34_38 : (("refused" : Str) == "try") = false := by decide +kernel
@[simp] theorem sn_35_0 : ¬ (("root" : Str) = "") := by decide +kernel
@[simp] theorem sb_35_0 : (("root" : Str) == "") = false := by decide +kernel
@[simp] theorem sn_35_1 : ¬ (("root" : Str) = "+-*/<=") := by decide +kernel
@[simp] theorem sb_35_1 : (("root" : Str) == "+-*/<=") = false := by decide +kernel
@[simp] theorem sn_35_2 : ¬ (("root" : Str) = "0") := by decide +kernel
@[simp] theorem sb_35_2 : (("root" : Str) == "0") = false := by decide +kernel
@[simp] theorem sn_35_3 : ¬ (("root" : Str) = "0123456789") := by decide +kernel
@[simp] theorem sb_35_3 : (("root" : Str) == "0123456789") = false := by decide +kernel
@[simp] theorem sn_35_4 : ¬ (("root" : Str) = "1") := by decide +kernel
@[simp] theorem sb_35_4 : (("root" : Str) == "1") = false := by decide +kernel
@[simp] theorem sn_35_5 : ¬ (("root" : Str) = "10") := by decide +kernel
@[simp] theorem sb_35_5 : (("root" : Str) == "10") = false := by decide +kernel
@[simp] theorem sn_35_6 : ¬ (("root" : Str) = "100") := by decide +kernel
@[simp] theorem sb_35_6 : (("root" : Str) == "100") = false := by decide +kernel
@[simp] theorem sn_35_7 : ¬ (("root" : Str) = "11") := by decide +kernel
@[simp] theorem sb_35_7 : (("root" : Str) == "11") = false := by decide +kernel
@[simp] theorem sn_35_8 : ¬ (("root" : Str) = "12") := by decide +kernel
@[simp] theorem sb_35_8 : (("root" : Str) == "12") = false := by decide +kernel
@[simp] theorem sn_35_9 : ¬ (("root" : Str) = "2") := by decide +kernel
@[simp] theorem sb_35_9 : (("root" : Str) == "2") = false := by decide +kernel
@[simp] theorem sn_35_10 : ¬ (("root" : Str) = "20") := by decide +kernel
@[simp] theorem sb_35_10 : (("root" : Str) == "20") = false := by decide +kernel
@[simp] theorem sn_35_11 : ¬ (("root" : Str) = "21") := by decide +kernel
@[simp] theorem sb_35_11 : (("root" : Str) == "21") = false := by decide +kernel
@[simp] theorem sn_35_12 : ¬ (("root" : Str) = "3") := by decide +kernel
@[simp] theorem sb_35_12 : (("root" : Str) == "3") = false := by decide +kernel
@[simp] theorem sn_35_13 : ¬ (("root" : Str) = "9") := by decide +kernel
@[simp] theorem sb_35_13 : (("root" : Str) == "9") = false := by decide +kernel
@[simp] theorem sn_35_14 : ¬ (("root" : Str) = "999") := by decide +kernel
@[simp] theorem sb_35_14 : (("root" : Str) == "999") = false := by decide +kernel
@[simp] theorem sn_35_15 : ¬ (("root" : Str) = "abcdefghijklmnopqrstuvwxyz") := by decide +kernel
@[simp] theorem sb_35_15 : (("root" : Str) == "abcdefghijklmnopqrstuvwxyz") = false := by decide +kernel
@[simp] theorem sn_35_16 : ¬ (("root" : Str) = "call") := by decide +kernel
@[simp] theorem sb_35_16 : (("root" : Str) == "call") = false := by decide +kernel
@[simp] theorem sn_35_17 : ¬ (("root" : Str) = "do") := by decide +kernel
@[simp] theorem sb_35_17 : (("root" : Str) == "do") = false := by decide +kernel
@[simp] theorem sn_35_18 : ¬ (("root" : Str) = "dry") := by decide +kernel
@[simp] theorem sb_35_18 : (("root" : Str) == "dry") = false := by decide +kernel
@[simp] theorem sn_35_19 : ¬ (("root" : Str) = "far") := by decide +kernel
@[simp] theorem sb_35_19 : (("root" : Str) == "far") = false := by decide +kernel
@[simp] theorem sn_35_20 : ¬ (("root" : Str) = "if") := by decide +kernel
@[simp] theorem sb_35_20 : (("root" : Str) == "if") = false := by decide +kernel
@[simp] theorem sn_35_21 : ¬ (("root" : Str) = "kind") := by decide +kernel
@[simp] theorem sb_35_21 : (("root" : Str) == "kind") = false := by decide +kernel
@[simp] theorem sn_35_22 : ¬ (("root" : Str) = "lack") := by decide +kernel
@[simp] theorem sb_35_22 : (("root" : Str) == "lack") = false := by decide +kernel
@[simp] theorem sn_35_23 : ¬ (("root" : Str) = "let") := by decide +kernel
@[simp] theorem sb_35_23 : (("root" : Str) == "let") = false := by decide +kernel
@[simp] theorem sn_35_24 : ¬ (("root" : Str) = "loop") := by decide +kernel
@[simp] theorem sb_35_24 : (("root" : Str) == "loop") = false := by decide +kernel
@[simp] theorem sn_35_25 : ¬ (("root" : Str) = "many") := by decide +kernel
@[simp] theorem sb_35_25 : (("root" : Str) == "many") = false := by decide +kernel
@[simp] theorem sn_35_26 : ¬ (("root" : Str) = "mark") := by decide +kernel
@[simp] theorem sb_35_26 : (("root" : Str) == "mark") = false := by decide +kernel
@[simp] theorem sn_35_27 : ¬ (("root" : Str) = "melt") := by decide +kernel
@[simp] theorem sb_35_27 : (("root" : Str) == "melt") = false := by decide +kernel
@[simp] theorem sn_35_28 : ¬ (("root" : Str) = "name") := by decide +kernel
@[simp] theorem sb_35_28 : (("root" : Str) == "name") = false := by decide +kernel
@[simp] theorem sn_35_29 : ¬ (("root" : Str) = "nought") := by decide +kernel
@[simp] theorem sb_35_29 : (("root" : Str) == "nought") = false := by decide +kernel
@[simp] theorem sn_35_30 : ¬ (("root" : Str) = "number") := by decide +kernel
@[simp] theorem sb_35_30 : (("root" : Str) == "number") = false := by decide +kernel
@[simp] theorem sn_35_31 : ¬ (("root" : Str) = "parts") := by decide +kernel
@[simp] theorem sb_35_31 : (("root" : Str) == "parts") = false := by decide +kernel
@[simp] theorem sn_35_32 : ¬ (("root" : Str) = "pick") := by decide +kernel
@[simp] theorem sb_35_32 : (("root" : Str) == "pick") = false := by decide +kernel
@[simp] theorem sn_35_33 : ¬ (("root" : Str) = "raise") := by decide +kernel
@[simp] theorem sb_35_33 : (("root" : Str) == "raise") = false := by decide +kernel
@[simp] theorem sn_35_34 : ¬ (("root" : Str) = "refused") := by decide +kernel
@[simp] theorem sb_35_34 : (("root" : Str) == "refused") = false := by decide +kernel
@[simp] theorem sn_35_36 : ¬ (("root" : Str) = "told") := by decide +kernel
@[simp] theorem sb_35_36 : (("root" : Str) == "told") = false := by decide +kernel
@[simp] theorem sn_35_37 : ¬ (("root" : Str) = "truth") := by decide +kernel
@[simp] theorem sb_35_37 : (("root" : Str) == "truth") = false := by decide +kernel
@[simp] theorem sn_35_38 : ¬ (("root" : Str) = "try") := by decide +kernel
@[simp] theorem sb_35_38 : (("root" : Str) == "try") = false := by decide +kernel
@[simp] theorem sn_36_0 : ¬ (("told" : Str) = "") := by decide +kernel
@[simp] theorem sb_36_0 : (("told" : Str) == "") = false := by decide +kernel
@[simp] theorem sn_36_1 : ¬ (("told" : Str) = "+-*/<=") := by decide +kernel
@[simp] theorem sb_36_1 : (("told" : Str) == "+-*/<=") = false := by decide +kernel
@[simp] theorem sn_36_2 : ¬ (("told" : Str) = "0") := by decide +kernel
@[simp] theorem sb_36_2 : (("told" : Str) == "0") = false := by decide +kernel
@[simp] theorem sn_36_3 : ¬ (("told" : Str) = "0123456789") := by decide +kernel
@[simp] theorem sb_36_3 : (("told" : Str) == "0123456789") = false := by decide +kernel
@[simp] theorem sn_36_4 : ¬ (("told" : Str) = "1") := by decide +kernel
@[simp] theorem sb_36_4 : (("told" : Str) == "1") = false := by decide +kernel
@[simp] theorem sn_36_5 : ¬ (("told" : Str) = "10") := by decide +kernel
@[simp] theorem sb_36_5 : (("told" : Str) == "10") = false := by decide +kernel
@[simp] theorem sn_36_6 : ¬ (("told" : Str) = "100") := by decide +kernel
@[simp] theorem sb_36_6 : (("told" : Str) == "100") = false := by decide +kernel
@[simp] theorem sn_36_7 : ¬ (("told" : Str) = "11") := by decide +kernel
@[simp] theorem sb_36_7 : (("told" : Str) == "11") = false := by decide +kernel
@[simp] theorem sn_36_8 : ¬ (("told" : Str) = "12") := by decide +kernel
@[simp] theorem sb_36_8 : (("told" : Str) == "12") = false := by decide +kernel
@[simp] theorem sn_36_9 : ¬ (("told" : Str) = "2") := by decide +kernel
@[simp] theorem sb_36_9 : (("told" : Str) == "2") = false := by decide +kernel
@[simp] theorem sn_36_10 : ¬ (("told" : Str) = "20") := by decide +kernel
@[simp] theorem sb_36_10 : (("told" : Str) == "20") = false := by decide +kernel
@[simp] theorem sn_36_11 : ¬ (("told" : Str) = "21") := by decide +kernel
@[simp] theorem sb_36_11 : (("told" : Str) == "21") = false := by decide +kernel
@[simp] theorem sn_36_12 : ¬ (("told" : Str) = "3") := by decide +kernel
@[simp] theorem sb_36_12 : (("told" : Str) == "3") = false := by decide +kernel
@[simp] theorem sn_36_13 : ¬ (("told" : Str) = "9") := by decide +kernel
@[simp] theorem sb_36_13 : (("told" : Str) == "9") = false := by decide +kernel
@[simp] theorem sn_36_14 : ¬ (("told" : Str) = "999") := by decide +kernel
@[simp] theorem sb_36_14 : (("told" : Str) == "999") = false := by decide +kernel
@[simp] theorem sn_36_15 : ¬ (("told" : Str) = "abcdefghijklmnopqrstuvwxyz") := by decide +kernel
@[simp] theorem sb_36_15 : (("told" : Str) == "abcdefghijklmnopqrstuvwxyz") = false := by decide +kernel
@[simp] theorem sn_36_16 : ¬ (("told" : Str) = "call") := by decide +kernel
@[simp] theorem sb_36_16 : (("told" : Str) == "call") = false := by decide +kernel
@[simp] theorem sn_36_17 : ¬ (("told" : Str) = "do") := by decide +kernel
@[simp] theorem sb_36_17 : (("told" : Str) == "do") = false := by decide +kernel
@[simp] theorem sn_36_18 : ¬ (("told" : Str) = "dry") := by decide +kernel
@[simp] theorem sb_36_18 : (("told" : Str) == "dry") = false := by decide +kernel
@[simp] theorem sn_36_19 : ¬ (("told" : Str) = "far") := by decide +kernel
@[simp] theorem sb_36_19 : (("told" : Str) == "far") = false := by decide +kernel
@[simp] theorem sn_36_20 : ¬ (("told" : Str) = "if") := by decide +kernel
@[simp] theorem sb_36_20 : (("told" : Str) == "if") = false := by decide +kernel
@[simp] theorem sn_36_21 : ¬ (("told" : Str) = "kind") := by decide +kernel
@[simp] theorem sb_36_21 : (("told" : Str) == "kind") = false := by decide +kernel
@[simp] theorem sn_36_22 : ¬ (("told" : Str) = "lack") := by decide +kernel
@[simp] theorem sb_36_22 : (("told" : Str) == "lack") = false := by decide +kernel
@[simp] theorem sn_36_23 : ¬ (("told" : Str) = "let") := by decide +kernel
@[simp] theorem sb_36_23 : (("told" : Str) == "let") = false := by decide +kernel
@[simp] theorem sn_36_24 : ¬ (("told" : Str) = "loop") := by decide +kernel
@[simp] theorem sb_36_24 : (("told" : Str) == "loop") = false := by decide +kernel
@[simp] theorem sn_36_25 : ¬ (("told" : Str) = "many") := by decide +kernel
@[simp] theorem sb_36_25 : (("told" : Str) == "many") = false := by decide +kernel
@[simp] theorem sn_36_26 : ¬ (("told" : Str) = "mark") := by decide +kernel
@[simp] theorem sb_36_26 : (("told" : Str) == "mark") = false := by decide +kernel
@[simp] theorem sn_36_27 : ¬ (("told" : Str) = "melt") := by decide +kernel
@[simp] theorem sb_36_27 : (("told" : Str) == "melt") = false := by decide +kernel
@[simp] theorem sn_36_28 : ¬ (("told" : Str) = "name") := by decide +kernel
@[simp] theorem sb_36_28 : (("told" : Str) == "name") = false := by decide +kernel
@[simp] theorem sn_36_29 : ¬ (("told" : Str) = "nought") := by decide +kernel
@[simp] theorem sb_36_29 : (("told" : Str) == "nought") = false := by decide +kernel
@[simp] theorem sn_36_30 : ¬ (("told" : Str) = "number") := by decide +kernel
@[simp] theorem sb_36_30 : (("told" : Str) == "number") = false := by decide +kernel
@[simp] theorem sn_36_31 : ¬ (("told" : Str) = "parts") := by decide +kernel
@[simp] theorem sb_36_31 : (("told" : Str) == "parts") = false := by decide +kernel
@[simp] theorem sn_36_32 : ¬ (("told" : Str) = "pick") := by decide +kernel
@[simp] theorem sb_36_32 : (("told" : Str) == "pick") = false := by decide +kernel
@[simp] theorem sn_36_33 : ¬ (("told" : Str) = "raise") := by decide +kernel
@[simp] theorem sb_36_33 : (("told" : Str) == "raise") = false := by decide +kernel
@[simp] theorem sn_36_34 : ¬ (("told" : Str) = "refused") := by decide +kernel
@[simp] theorem sb_36_34 : (("told" : Str) == "refused") = false := by decide +kernel
@[simp] theorem sn_36_35 : ¬ (("told" : Str) = "root") := by decide +kernel
@[simp] theorem sb_36_35 : (("told" : Str) == "root") = false := by decide +kernel
@[simp] theorem sn_36_37 : ¬ (("told" : Str) = "truth") := by decide +kernel
@[simp] theorem sb_36_37 : (("told" : Str) == "truth") = false := by decide +kernel
@[simp] theorem sn_36_38 : ¬ (("told" : Str) = "try") := by decide +kernel
@[simp] theorem sb_36_38 : (("told" : Str) == "try") = false := by decide +kernel
@[simp] theorem sn_37_0 : ¬ (("truth" : Str) = "") := by decide +kernel
@[simp] theorem sb_37_0 : (("truth" : Str) == "") = false := by decide +kernel
@[simp] theorem sn_37_1 : ¬ (("truth" : Str) = "+-*/<=") := by decide +kernel
@[simp] theorem sb_37_1 : (("truth" : Str) == "+-*/<=") = false := by decide +kernel
@[simp] theorem sn_37_2 : ¬ (("truth" : Str) = "0") := by decide +kernel
@[simp] theorem sb_37_2 : (("truth" : Str) == "0") = false := by decide +kernel
@[simp] theorem sn_37_3 : ¬ (("truth" : Str) = "0123456789") := by decide +kernel
@[simp] theorem sb_37_3 : (("truth" : Str) == "0123456789") = false := by decide +kernel
@[simp] theorem sn_37_4 : ¬ (("truth" : Str) = "1") := by decide +kernel
@[simp] theorem sb_37_4 : (("truth" : Str) == "1") = false := by decide +kernel
@[simp] theorem sn_37_5 : ¬ (("truth" : Str) = "10") := by decide +kernel
@[simp] theorem sb_37_5 : (("truth" : Str) == "10") = false := by decide +kernel
@[simp] theorem sn_37_6 : ¬ (("truth" : Str) = "100") := by decide +kernel
@[simp] theorem sb_37_6 : (("truth" : Str) == "100") = false := by decide +kernel
@[simp] theorem sn_37_7 : ¬ (("truth" : Str) = "11") := by decide +kernel
@[simp] theorem sb_37_7 : (("truth" : Str) == "11") = false := by decide +kernel
@[simp] theorem sn_37_8 : ¬ (("truth" : Str) = "12") := by decide +kernel
@[simp] theorem sb_37_8 : (("truth" : Str) == "12") = false := by decide +kernel
@[simp] theorem sn_37_9 : ¬ (("truth" : Str) = "2") := by decide +kernel
@[simp] theorem sb_37_9 : (("truth" : Str) == "2") = false := by decide +kernel
@[simp] theorem sn_37_10 : ¬ (("truth" : Str) = "20") := by decide +kernel
@[simp] theorem sb_37_10 : (("truth" : Str) == "20") = false := by decide +kernel
@[simp] theorem sn_37_11 : ¬ (("truth" : Str) = "21") := by decide +kernel
@[simp] theorem sb_37_11 : (("truth" : Str) == "21") = false := by decide +kernel
@[simp] theorem sn_37_12 : ¬ (("truth" : Str) = "3") := by decide +kernel
@[simp] theorem sb_37_12 : (("truth" : Str) == "3") = false := by decide +kernel
@[simp] theorem sn_37_13 : ¬ (("truth" : Str) = "9") := by decide +kernel
@[simp] theorem sb_37_13 : (("truth" : Str) == "9") = false := by decide +kernel
@[simp] theorem sn_37_14 : ¬ (("truth" : Str) = "999") := by decide +kernel
@[simp] theorem sb_37_14 : (("truth" : Str) == "999") = false := by decide +kernel
@[simp] theorem sn_37_15 : ¬ (("truth" : Str) = "abcdefghijklmnopqrstuvwxyz") := by decide +kernel
@[simp] theorem sb_37_15 : (("truth" : Str) == "abcdefghijklmnopqrstuvwxyz") = false := by decide +kernel
@[simp] theorem sn_37_16 : ¬ (("truth" : Str) = "call") := by decide +kernel
@[simp] theorem sb_37_16 : (("truth" : Str) == "call") = false := by decide +kernel
@[simp] theorem sn_37_17 : ¬ (("truth" : Str) = "do") := by decide +kernel
@[simp] theorem sb_37_17 : (("truth" : Str) == "do") = false := by decide +kernel
@[simp] theorem sn_37_18 : ¬ (("truth" : Str) = "dry") := by decide +kernel
@[simp] theorem sb_37_18 : (("truth" : Str) == "dry") = false := by decide +kernel
@[simp] theorem sn_37_19 : ¬ (("truth" : Str) = "far") := by decide +kernel
@[simp] theorem sb_37_19 : (("truth" : Str) == "far") = false := by decide +kernel
@[simp] theorem sn_37_20 : ¬ (("truth" : Str) = "if") := by decide +kernel
@[simp] theorem sb_37_20 : (("truth" : Str) == "if") = false := by decide +kernel
@[simp] theorem sn_37_21 : ¬ (("truth" : Str) = "kind") := by decide +kernel
@[simp] theorem sb_37_21 : (("truth" : Str) == "kind") = false := by decide +kernel
@[simp] theorem sn_37_22 : ¬ (("truth" : Str) = "lack") := by decide +kernel
@[simp] theorem sb_37_22 : (("truth" : Str) == "lack") = false := by decide +kernel
@[simp] theorem sn_37_23 : ¬ (("truth" : Str) = "let") := by decide +kernel
@[simp] theorem sb_37_23 : (("truth" : Str) == "let") = false := by decide +kernel
@[simp] theorem sn_37_24 : ¬ (("truth" : Str) = "loop") := by decide +kernel
@[simp] theorem sb_37_24 : (("truth" : Str) == "loop") = false := by decide +kernel
@[simp] theorem sn_37_25 : ¬ (("truth" : Str) = "many") := by decide +kernel
@[simp] theorem sb_37_25 : (("truth" : Str) == "many") = false := by decide +kernel
@[simp] theorem sn_37_26 : ¬ (("truth" : Str) = "mark") := by decide +kernel
@[simp] theorem sb_37_26 : (("truth" : Str) == "mark") = false := by decide +kernel
@[simp] theorem sn_37_27 : ¬ (("truth" : Str) = "melt") := by decide +kernel
@[simp] theorem sb_37_27 : (("truth" : Str) == "melt") = false := by decide +kernel
@[simp] theorem sn_37_28 : ¬ (("truth" : Str) = "name") := by decide +kernel
@[simp] theorem sb_37_28 : (("truth" : Str) == "name") = false := by decide +kernel
@[simp] theorem sn_37_29 : ¬ (("truth" : Str) = "nought") := by decide +kernel
@[simp] theorem sb_37_29 : (("truth" : Str) == "nought") = false := by decide +kernel
@[simp] theorem sn_37_30 : ¬ (("truth" : Str) = "number") := by decide +kernel
@[simp] theorem sb_37_30 : (("truth" : Str) == "number") = false := by decide +kernel
@[simp] theorem sn_37_31 : ¬ (("truth" : Str) = "parts") := by decide +kernel
@[simp] theorem sb_37_31 : (("truth" : Str) == "parts") = false := by decide +kernel
@[simp] theorem sn_37_32 : ¬ (("truth" : Str) = "pick") := by decide +kernel
@[simp] theorem sb_37_32 : (("truth" : Str) == "pick") = false := by decide +kernel
@[simp] theorem sn_37_33 : ¬ (("truth" : Str) = "raise") := by decide +kernel
@[simp] theorem sb_37_33 : (("truth" : Str) == "raise") = false := by decide +kernel
@[simp] theorem sn_37_34 : ¬ (("truth" : Str) = "refused") := by decide +kernel
@[simp] theorem sb_37_34 : (("truth" : Str) == "refused") = false := by decide +kernel
@[simp] theorem sn_37_35 : ¬ (("truth" : Str) = "root") := by decide +kernel
@[simp] theorem sb_37_35 : (("truth" : Str) == "root") = false := by decide +kernel
@[simp] theorem sn_37_36 : ¬ (("truth" : Str) = "told") := by decide +kernel
@[simp] theorem sb_37_36 : (("truth" : Str) == "told") = false := by decide +kernel
@[simp] theorem sn_37_38 : ¬ (("truth" : Str) = "try") := by decide +kernel
@[simp] theorem sb_37_38 : (("truth" : Str) == "try") = false := by decide +kernel
@[simp] theorem sn_38_0 : ¬ (("try" : Str) = "") := by decide +kernel
@[simp] theorem sb_38_0 : (("try" : Str) == "") = false := by decide +kernel
@[simp] theorem sn_38_1 : ¬ (("try" : Str) = "+-*/<=") := by decide +kernel
@[simp] theorem sb_38_1 : (("try" : Str) == "+-*/<=") = false := by decide +kernel
@[simp] theorem sn_38_2 : ¬ (("try" : Str) = "0") := by decide +kernel
@[simp] theorem sb_38_2 : (("try" : Str) == "0") = false := by decide +kernel
@[simp] theorem sn_38_3 : ¬ (("try" : Str) = "0123456789") := by decide +kernel
@[simp] theorem sb_38_3 : (("try" : Str) == "0123456789") = false := by decide +kernel
@[simp] theorem sn_38_4 : ¬ (("try" : Str) = "1") := by decide +kernel
@[simp] theorem sb_38_4 : (("try" : Str) == "1") = false := by decide +kernel
@[simp] theorem sn_38_5 : ¬ (("try" : Str) = "10") := by decide +kernel
@[simp] theorem sb_38_5 : (("try" : Str) == "10") = false := by decide +kernel
@[simp] theorem sn_38_6 : ¬ (("try" : Str) = "100") := by decide +kernel
@[simp] theorem sb_38_6 : (("try" : Str) == "100") = false := by decide +kernel
@[simp] theorem sn_38_7 : ¬ (("try" : Str) = "11") := by decide +kernel
@[simp] theorem sb_38_7 : (("try" : Str) == "11") = false := by decide +kernel
@[simp] theorem sn_38_8 : ¬ (("try" : Str) = "12") := by decide +kernel
@[simp] theorem sb_38_8 : (("try" : Str) == "12") = false := by decide +kernel
@[simp] theorem sn_38_9 : ¬ (("try" : Str) = "2") := by decide +kernel
@[simp] theorem sb_38_9 : (("try" : Str) == "2") = false := by decide +kernel
@[simp] theorem sn_38_10 : ¬ (("try" : Str) = "20") := by decide +kernel
@[simp] theorem sb_38_10 : (("try" : Str) == "20") = false := by decide +kernel
@[simp] theorem sn_38_11 : ¬ (("try" : Str) = "21") := by decide +kernel
@[simp] theorem sb_38_11 : (("try" : Str) == "21") = false := by decide +kernel
@[simp] theorem sn_38_12 : ¬ (("try" : Str) = "3") := by decide +kernel
@[simp] theorem sb_38_12 : (("try" : Str) == "3") = false := by decide +kernel
@[simp] theorem sn_38_13 : ¬ (("try" : Str) = "9") := by decide +kernel
@[simp] theorem sb_38_13 : (("try" : Str) == "9") = false := by decide +kernel
@[simp] theorem sn_38_14 : ¬ (("try" : Str) = "999") := by decide +kernel
@[simp] theorem sb_38_14 : (("try" : Str) == "999") = false := by decide +kernel
@[simp] theorem sn_38_15 : ¬ (("try" : Str) = "abcdefghijklmnopqrstuvwxyz") := by decide +kernel
@[simp] theorem sb_38_15 : (("try" : Str) == "abcdefghijklmnopqrstuvwxyz") = false := by decide +kernel
@[simp] theorem sn_38_16 : ¬ (("try" : Str) = "call") := by decide +kernel
@[simp] theorem sb_38_16 : (("try" : Str) == "call") = false := by decide +kernel
@[simp] theorem sn_38_17 : ¬ (("try" : Str) = "do") := by decide +kernel
@[simp] theorem sb_38_17 : (("try" : Str) == "do") = false := by decide +kernel
@[simp] theorem sn_38_18 : ¬ (("try" : Str) = "dry") := by decide +kernel
@[simp] theorem sb_38_18 : (("try" : Str) == "dry") = false := by decide +kernel
@[simp] theorem sn_38_19 : ¬ (("try" : Str) = "far") := by decide +kernel
@[simp] theorem sb_38_19 : (("try" : Str) == "far") = false := by decide +kernel
@[simp] theorem sn_38_20 : ¬ (("try" : Str) = "if") := by decide +kernel
@[simp] theorem sb_38_20 : (("try" : Str) == "if") = false := by decide +kernel
@[simp] theorem sn_38_21 : ¬ (("try" : Str) = "kind") := by decide +kernel
@[simp] theorem sb_38_21 : (("try" : Str) == "kind") = false := by decide +kernel
@[simp] theorem sn_38_22 : ¬ (("try" : Str) = "lack") := by decide +kernel
@[simp] theorem sb_38_22 : (("try" : Str) == "lack") = false := by decide +kernel
@[simp] theorem sn_38_23 : ¬ (("try" : Str) = "let") := by decide +kernel
@[simp] theorem sb_38_23 : (("try" : Str) == "let") = false := by decide +kernel
@[simp] theorem sn_38_24 : ¬ (("try" : Str) = "loop") := by decide +kernel
@[simp] theorem sb_38_24 : (("try" : Str) == "loop") = false := by decide +kernel
@[simp] theorem sn_38_25 : ¬ (("try" : Str) = "many") := by decide +kernel
@[simp] theorem sb_38_25 : (("try" : Str) == "many") = false := by decide +kernel
@[simp] theorem sn_38_26 : ¬ (("try" : Str) = "mark") := by decide +kernel
@[simp] theorem sb_38_26 : (("try" : Str) == "mark") = false := by decide +kernel
@[simp] theorem sn_38_27 : ¬ (("try" : Str) = "melt") := by decide +kernel
@[simp] theorem sb_38_27 : (("try" : Str) == "melt") = false := by decide +kernel
@[simp] theorem sn_38_28 : ¬ (("try" : Str) = "name") := by decide +kernel
@[simp] theorem sb_38_28 : (("try" : Str) == "name") = false := by decide +kernel
@[simp] theorem sn_38_29 : ¬ (("try" : Str) = "nought") := by decide +kernel
@[simp] theorem sb_38_29 : (("try" : Str) == "nought") = false := by decide +kernel
@[simp] theorem sn_38_30 : ¬ (("try" : Str) = "number") := by decide +kernel
@[simp] theorem sb_38_30 : (("try" : Str) == "number") = false := by decide +kernel
@[simp] theorem sn_38_31 : ¬ (("try" : Str) = "parts") := by decide +kernel
@[simp] theorem sb_38_31 : (("try" : Str) == "parts") = false := by decide +kernel
@[simp] theorem sn_38_32 : ¬ (("try" : Str) = "pick") := by decide +kernel
@[simp] theorem sb_38_32 : (("try" : Str) == "pick") = false := by decide +kernel
@[simp] theorem sn_38_33 : ¬ (("try" : Str) = "raise") := by decide +kernel
@[simp] theorem sb_38_33 : (("try" : Str) == "raise") = false := by decide +kernel
@[simp] theorem sn_38_34 : ¬ (("try" : Str) = "refused") := by decide +kernel
@[simp] theorem sb_38_34 : (("try" : Str) == "refused") = false := by decide +kernel
@[simp] theorem sn_38_35 : ¬ (("try" : Str) = "root") := by decide +kernel
@[simp] theorem sb_38_35 : (("try" : Str) == "root") = false := by decide +kernel
@[simp] theorem sn_38_36 : ¬ (("try" : Str) = "told") := by decide +kernel
@[simp] theorem sb_38_36 : (("try" : Str) == "told") = false := by decide +kernel
@[simp] theorem sn_38_37 : ¬ (("try" : Str) = "truth") := by decide +kernel
@[simp] theorem sb_38_37 : (("try" : Str) == "truth") = false := by decide +kernel
def topS (i : Nat) : Stmt := PySem.Challenge.pw_callmelt_k16_thawed.main.body.getD i (.Pass ⟨0, 0, 0, 0⟩)
abbrev s_is_whole : Stmt := topS 6
theorem sc_is_whole : FnScope ["thing"] ["thing"] (defScope s_is_whole) := ⟨rfl, rfl, rfl, by decide +kernel, rfl, by decide +kernel, by decide +kernel⟩
abbrev s_is_from_to : Stmt := topS 7
theorem sc_is_from_to : FnScope ["thing", "least", "most"] ["thing", "least", "most"] (defScope s_is_from_to) := ⟨rfl, rfl, rfl, by decide +kernel, rfl, by decide +kernel, by decide +kernel⟩
abbrev s_stem_of : Stmt := topS 8
theorem sc_stem_of : FnScope ["word"] ["word"] (defScope s_stem_of) := ⟨rfl, rfl, rfl, by decide +kernel, rfl, by decide +kernel, by decide +kernel⟩
abbrev s_is_word : Stmt := topS 9
theorem sc_is_word : FnScope ["thing", "stem", "number", "sign"] ["thing"] (defScope s_is_word) := ⟨rfl, rfl, rfl, by decide +kernel, rfl, by decide +kernel, by decide +kernel⟩
abbrev s_is_row : Stmt := topS 18
theorem sc_is_row : FnScope ["thing"] ["thing"] (defScope s_is_row) := ⟨rfl, rfl, rfl, by decide +kernel, rfl, by decide +kernel, by decide +kernel⟩
abbrev s_is_bare : Stmt := topS 19
theorem sc_is_bare : FnScope ["thing"] ["thing"] (defScope s_is_bare) := ⟨rfl, rfl, rfl, by decide +kernel, rfl, by decide +kernel, by decide +kernel⟩
abbrev s_are_pairs : Stmt := topS 20
theorem sc_are_pairs : FnScope ["thing", "pair", "words", "word", "tree"] ["thing"] (defScope s_are_pairs) := ⟨rfl, rfl, rfl, by decide +kernel, rfl, by decide +kernel, by decide +kernel⟩
abbrev s_has_words : Stmt := topS 21
theorem sc_has_words : FnScope ["thing"] ["thing"] (defScope s_has_words) := ⟨rfl, rfl, rfl, by decide +kernel, rfl, by decide +kernel, by decide +kernel⟩
abbrev s_is_node : Stmt := topS 22
theorem sc_is_node : FnScope ["thing"] ["thing"] (defScope s_is_node) := ⟨rfl, rfl, rfl, by decide +kernel, rfl, by decide +kernel, by decide +kernel⟩
abbrev s_parts_of : Stmt := topS 23
theorem sc_parts_of : FnScope ["tree", "word", "part"] ["tree"] (defScope s_parts_of) := ⟨rfl, rfl, rfl, by decide +kernel, rfl, by decide +kernel, by decide +kernel⟩
abbrev s_counted_parts : Stmt := topS 24
theorem sc_counted_parts : FnScope ["tree", "word", "part"] ["tree"] (defScope s_counted_parts) := ⟨rfl, rfl, rfl, by decide +kernel, rfl, by decide +kernel, by decide +kernel⟩
abbrev s_is_tree : Stmt := topS 25
theorem sc_is_tree : FnScope ["thing", "waiting", "many", "part", "one", "depth"] ["thing"] (defScope s_is_tree) := ⟨rfl, rfl, rfl, by decide +kernel, rfl, by decide +kernel, by decide +kernel⟩
abbrev s_with_parts : Stmt := topS 26
theorem sc_with_parts : FnScope ["tree", "parts", "body", "row", "pair", "part"] ["tree", "parts"] (defScope s_with_parts) := ⟨rfl, rfl, rfl, by decide +kernel, rfl, by decide +kernel, by decide +kernel⟩
abbrev s_thawed : Stmt := topS 27
theorem sc_thawed : FnScope ["tree", "part", "word"] ["tree"] (defScope s_thawed) := ⟨rfl, rfl, rfl, by decide +kernel, rfl, by decide +kernel, by decide +kernel⟩
abbrev s__law_bag : Stmt := topS 29
theorem sc__law_bag : FnScope ["_law_script", "_law_cell"] ["_law_script"] (defScope s__law_bag) := ⟨rfl, rfl, rfl, by decide +kernel, rfl, by decide +kernel, by decide +kernel⟩
abbrev s__law_take : Stmt := topS 30
theorem sc__law_take : FnScope ["_law_bag_here", "_law_many", "_law_first", "_law_second", "_law_cell", "_law_value"] ["_law_bag_here", "_law_many"] (defScope s__law_take) := ⟨rfl, rfl, rfl, by decide +kernel, rfl, by decide +kernel, by decide +kernel⟩
abbrev s__law_words : Stmt := topS 31
theorem sc__law_words : FnScope ["_law_bag_here", "_law_many", "_law_letters", "_law_some", "_law_way", "_law_turn", "_law_base", "_law_tails", "_law_at", "_law_k", "_law_tail"] ["_law_bag_here", "_law_many"] (defScope s__law_words) := ⟨rfl, rfl, rfl, by decide +kernel, rfl, by decide +kernel, by decide +kernel⟩
abbrev s__law_plain : Stmt := topS 32
theorem sc__law_plain : FnScope ["_law_bag_here", "_law_scope", "_law_way"] ["_law_bag_here", "_law_scope"] (defScope s__law_plain) := ⟨rfl, rfl, rfl, by decide +kernel, rfl, by decide +kernel, by decide +kernel⟩
abbrev s__law_node : Stmt := topS 33
theorem sc__law_node : FnScope ["_law_bag_here", "_law_way", "_law_head", "_law_some", "_law_two", "_law_turns"] ["_law_bag_here", "_law_way", "_law_head", "_law_some", "_law_two"] (defScope s__law_node) := ⟨rfl, rfl, rfl, by decide +kernel, rfl, by decide +kernel, by decide +kernel⟩
abbrev s__law_any : Stmt := topS 34
theorem sc__law_any : FnScope ["_law_bag_here", "_law_words_here", "_law_room", "_law_deep", "_law_way", "_law_at", "_law_two", "_law_size", "_law_many", "_law_share", "_law_some", "_law_pairs", "_law_k"] ["_law_bag_here", "_law_words_here", "_law_room", "_law_deep"] (defScope s__law_any) := ⟨rfl, rfl, rfl, by decide +kernel, rfl, by decide +kernel, by decide +kernel⟩
abbrev s__law_parts : Stmt := topS 35
theorem sc__law_parts : FnScope ["_law_tree", "_law_word", "_law_pair"] ["_law_tree"] (defScope s__law_parts) := ⟨rfl, rfl, rfl, by decide +kernel, rfl, by decide +kernel, by decide +kernel⟩
abbrev s__law_thawed : Stmt := topS 36
theorem sc__law_thawed : FnScope ["_law_tree", "_law_word", "_law_some", "_law_part"] ["_law_tree"] (defScope s__law_thawed) := ⟨rfl, rfl, rfl, by decide +kernel, rfl, by decide +kernel, by decide +kernel⟩
abbrev s__law_melted : Stmt := topS 37
theorem sc__law_melted : FnScope ["_law_bag_here", "_law_tree", "_law_words_here", "_law_row", "_law_one", "_law_k", "_law_part"] ["_law_bag_here", "_law_tree", "_law_words_here"] (defScope s__law_melted) := ⟨rfl, rfl, rfl, by decide +kernel, rfl, by decide +kernel, by decide +kernel⟩
abbrev s_law : Stmt := topS 38
theorem sc_law : FnScope ["_law_script", "_law_bag_here", "_law_words_here", "_law_some", "_law_tree", "_law_due", "_law_kept", "_law_found", "_law_again", "_law_k"] ["_law_script"] (defScope s_law) := ⟨rfl, rfl, rfl, by decide +kernel, rfl, by decide +kernel, by decide +kernel⟩
structure Gs (w : World) (K : PySem.W.Frag) (mg : Str → Option Value) : Prop where
  n_abs : mg "abs" = none
  n_all : mg "all" = none
  n_bool : mg "bool" = none
  n_int : mg "int" = none
  n_isinstance : mg "isinstance" = none
  n_len : mg "len" = none
  n_list : mg "list" = none
  n_max : mg "max" = none
  n_range : mg "range" = none
  n_repr : mg "repr" = none
  n_set : mg "set" = none
  n_str : mg "str" = none
  n_tuple : mg "tuple" = none
  n_zip : mg "zip" = none
  g_KEPT : GlobD K mg "KEPT" c_KEPT
  g_LETTERS : GlobD K mg "LETTERS" c_LETTERS
  g_FIGURES : GlobD K mg "FIGURES" c_FIGURES
  g_MOST_LETTERS : GlobD K mg "MOST_LETTERS" c_MOST_LETTERS
  g_MOST_FIGURES : GlobD K mg "MOST_FIGURES" c_MOST_FIGURES
  g_PLAIN : GlobD K mg "PLAIN" c_PLAIN
  g_SIGNS : GlobD K mg "SIGNS" c_SIGNS
  g_SHAPES : TabG w K mg "SHAPES" t_SHAPES
  g_MOST_NUMBER : GlobD K mg "MOST_NUMBER" c_MOST_NUMBER
  g_MOST_ARGS : GlobD K mg "MOST_ARGS" c_MOST_ARGS
  g_MOST_NODES : GlobD K mg "MOST_NODES" c_MOST_NODES
  g_MOST_DEPTH : GlobD K mg "MOST_DEPTH" c_MOST_DEPTH
structure Cs (P : Program) (w : World) (K : PySem.W.Frag) (mg : Str → Option Value) (base : Heap) (n : Nat) (call : Str → List M → CR) : Prop where
  c_is_whole : FnD P w K mg base n "is_whole" 1 (call "is_whole")
  c_is_from_to : FnD P w K mg base n "is_from_to" 3 (call "is_from_to")
  c_stem_of : FnD P w K mg base n "stem_of" 1 (call "stem_of")
  c_is_word : FnD P w K mg base n "is_word" 1 (call "is_word")
  c_is_row : FnD P w K mg base n "is_row" 1 (call "is_row")
  c_is_bare : FnD P w K mg base n "is_bare" 1 (call "is_bare")
  c_are_pairs : FnD P w K mg base n "are_pairs" 1 (call "are_pairs")
  c_has_words : FnD P w K mg base n "has_words" 1 (call "has_words")
  c_is_node : FnD P w K mg base n "is_node" 1 (call "is_node")
  c_parts_of : FnD P w K mg base n "parts_of" 1 (call "parts_of")
  c_counted_parts : FnD P w K mg base n "counted_parts" 1 (call "counted_parts")
  c_is_tree : FnD P w K mg base n "is_tree" 1 (call "is_tree")
  c_with_parts : FnD P w K mg base n "with_parts" 2 (call "with_parts")
  c_thawed : FnD P w K mg base n "thawed" 1 (call "thawed")
  c__law_bag : FnD P w K mg base n "_law_bag" 1 (call "_law_bag")
  c__law_take : FnD P w K mg base n "_law_take" 2 (call "_law_take")
  c__law_words : FnD P w K mg base n "_law_words" 2 (call "_law_words")
  c__law_plain : FnD P w K mg base n "_law_plain" 2 (call "_law_plain")
  c__law_node : FnD P w K mg base n "_law_node" 5 (call "_law_node")
  c__law_any : FnD P w K mg base n "_law_any" 4 (call "_law_any")
  c__law_parts : FnD P w K mg base n "_law_parts" 1 (call "_law_parts")
  c__law_thawed : FnD P w K mg base n "_law_thawed" 1 (call "_law_thawed")
  c__law_melted : FnD P w K mg base n "_law_melted" 3 (call "_law_melted")
  c_law : FnD P w K mg base n "law" 1 (call "law")
section
variable {P : Program} {w : World} {K : PySem.W.Frag} {mg : Str → Option Value} {base : Heap} {f : Addr} {fd : FuncData} {n : Nat} {call : Str → List M → CR}
theorem ok_is_whole (F : Fun K "is_whole" "is_whole" s_is_whole f fd) (G : Gs w K mg) (C : Cs P w K mg base n call) : FnG P w K mg base (n + 1) f fd ["thing"] (spD K 1 (g_is_whole call)) :=
  have SC := sc_is_whole
  fn_ok ["thing"] ["thing"] 1 1 (kpl [true]) (b_is_whole call) (g_is_whole call) rfl rfl rfl F SC fun cdv A outer s H E hr =>
  (dss_one (ds_ret (dm_and (dm_blt cd_isi (by rfl) G.n_isinstance (by decide +kernel) (da_cons (de_n (pv 0)) (da_cons (de_c (pe_bltn (by rfl) G.n_int (by decide +kernel) (show RelV (.ty "int") _ from rfl)) fun _ => .ty _) da_nil))) (dm_one (dm_not (dm_blt cd_isi (by rfl) G.n_isinstance (by decide +kernel) (da_cons (de_n (pv 0)) (da_cons (de_c (pe_bltn (by rfl) G.n_bool (by decide +kernel) (show RelV (.ty "bool") _ from rfl)) fun _ => .ty _) da_nil))))))))
theorem ok_is_from_to (F : Fun K "is_from_to" "is_from_to" s_is_from_to f fd) (G : Gs w K mg) (C : Cs P w K mg base n call) : FnG P w K mg base (n + 1) f fd ["thing", "least", "most"] (spD K 3 (g_is_from_to call)) :=
  have SC := sc_is_from_to
  fn_ok ["thing", "least", "most"] ["thing", "least", "most"] 3 3 (kpl [true, true, true]) (b_is_from_to call) (g_is_from_to call) rfl rfl rfl F SC fun cdv A outer s H E hr =>
  (dss_one (ds_ret (dm_and (dm_call C.c_is_whole hr (by rfl) (da_cons (de_n (pv 0)) da_nil) (many_cons many_nil)) (dm_one (dm_chain od_le od_le (de_n (pv 1)) (de_n (pv 0)) (de_n (pv 2)))))))
theorem ok_stem_of (F : Fun K "stem_of" "stem_of" s_stem_of f fd) (G : Gs w K mg) (C : Cs P w K mg base n call) : FnG P w K mg base (n + 1) f fd ["word"] (spD K 1 (g_stem_of call)) :=
  have SC := sc_stem_of
  fn_ok ["word"] ["word"] 1 1 (kpl [true]) (b_stem_of call) (g_stem_of call) rfl rfl rfl F SC fun cdv A outer s H E hr =>
  (dss_one (ds_ret (dm_rstrip (de_n (pv 0)) (de_g (by rfl) G.g_FIGURES))))
theorem ok_is_word (F : Fun K "is_word" "is_word" s_is_word f fd) (G : Gs w K mg) (C : Cs P w K mg base n call) : FnG P w K mg base (n + 1) f fd ["thing"] (spD K 1 (g_is_word call)) :=
  have SC := sc_is_word
  fn_ok ["thing", "stem", "number", "sign"] ["thing"] 1 4 (kpl [true]) (b_is_word call) (g_is_word call) rfl rfl rfl F SC fun cdv A outer s H E hr =>
  (dss_cons (ds_if (dt_w (dw_or (dt_not (dt_val (dm_blt cd_isi (by rfl) G.n_isinstance (by decide +kernel) (da_cons (de_n (pv 0)) (da_cons (de_c (pe_bltn (by rfl) G.n_str (by decide +kernel) (show RelV (.ty "str") _ from rfl)) fun _ => .ty _) da_nil))))) (dw_or1 (dt_cmp (od_in (Ev.hu192 hr)) (de_n (pv 0)) (de_g (by rfl) G.g_KEPT) (by with_unfolding_all rfl)))))
    (dss_one (ds_ret (dm_e de_bl)))
    dss_nil)
  (dss_cons (ds_set (i := 1) SC.nd rfl (by first | exact .inl rfl | exact .inr rfl) rfl (dm_call C.c_stem_of hr (by rfl) (da_cons (de_n (pv 0)) da_nil) (many_cons many_nil)))
  (dss_cons (ds_if (dt_w (dw_or (dt_not (dt_chain od_le od_le de_int (de_m (dm_blt cd_len (by rfl) G.n_len (by decide +kernel) (da_cons (de_n (pv 1)) da_nil))) (de_g (by rfl) G.g_MOST_LETTERS))) (dw_or1 (dt_not (dt_val (dm_blt (cd_all rfl) (by rfl) G.n_all (by decide +kernel) (da_cons (de_m (dm_lc (own := [("sign", 3)]) rfl SC.nd (di_any (di_seq (de_n (pv 1)))) (blkOk_by (own := [("sign", 3)]) (N := ["thing", "stem", "number", "sign"]) (sc := defScope s_is_word) (by decide +kernel)) (fun _ _ _ _ _ => (dg_n rfl (pg_name (i := 3) SC.nd rfl (by first | exact .inl rfl | exact .inr rfl)))) (fun _ _ _ _ _ => dts_nil) (fun _ _ _ _ _ => (de_m (dm_cmp (od_in (Ev.hu192 hr)) (de_n (pv 3)) (de_g (by rfl) G.g_LETTERS) (by with_unfolding_all rfl)))))) da_nil)))))))
    (dss_one (ds_ret (dm_e de_bl)))
    dss_nil)
  (dss_cons (ds_set (i := 2) SC.nd rfl (by first | exact .inl rfl | exact .inr rfl) rfl (dm_sl (de_n (pv 0)) (dp_ix (de_m (dm_blt cd_len (by rfl) G.n_len (by decide +kernel) (da_cons (de_n (pv 1)) da_nil)))) dp_no))
  (dss_one (ds_ret (dm_or (dm_cmp (od_eq (Ev.hu192 hr)) (de_n (pv 2)) de_str (nomark _)) (dm_one (dm_and (dm_cmp od_le (de_m (dm_blt cd_len (by rfl) G.n_len (by decide +kernel) (da_cons (de_n (pv 2)) da_nil))) (de_g (by rfl) G.g_MOST_FIGURES) (nomark _)) (dm_one (dm_cmp (od_ne (Ev.hu192 hr)) (de_m (dm_ix (de_n (pv 2)) de_int)) de_str (nomark _))))))))))))
theorem ok_is_row (F : Fun K "is_row" "is_row" s_is_row f fd) (G : Gs w K mg) (C : Cs P w K mg base n call) : FnG P w K mg base (n + 1) f fd ["thing"] (spD K 1 (g_is_row call)) :=
  have SC := sc_is_row
  fn_ok ["thing"] ["thing"] 1 1 (kpl [true]) (b_is_row call) (g_is_row call) rfl rfl rfl F SC fun cdv A outer s H E hr =>
  (dss_one (ds_ret (dm_and (dm_blt cd_isi (by rfl) G.n_isinstance (by decide +kernel) (da_cons (de_n (pv 0)) (da_cons (de_c (pe_bltn (by rfl) G.n_tuple (by decide +kernel) (show RelV (.ty "tuple") _ from rfl)) fun _ => .ty _) da_nil))) (dm_one (dm_cmp od_le (de_m (dm_blt cd_len (by rfl) G.n_len (by decide +kernel) (da_cons (de_n (pv 0)) da_nil))) (de_g (by rfl) G.g_MOST_ARGS) (nomark _))))))
theorem ok_is_bare (F : Fun K "is_bare" "is_bare" s_is_bare f fd) (G : Gs w K mg) (C : Cs P w K mg base n call) : FnG P w K mg base (n + 1) f fd ["thing"] (spD K 1 (g_is_bare call)) :=
  have SC := sc_is_bare
  fn_ok ["thing"] ["thing"] 1 1 (kpl [true]) (b_is_bare call) (g_is_bare call) rfl rfl rfl F SC fun cdv A outer s H E hr =>
  (dss_one (ds_ret (dm_and (dm_blt cd_isi (by rfl) G.n_isinstance (by decide +kernel) (da_cons (de_n (pv 0)) (da_cons (de_c (pe_bltn (by rfl) G.n_tuple (by decide +kernel) (show RelV (.ty "tuple") _ from rfl)) fun _ => .ty _) da_nil))) (dm_and (dm_cmp (od_ne (Ev.hu192 hr)) (de_n (pv 0)) (de_m (dm_tup da_nil)) (nomark _)) (dm_and (dm_blt cd_isi (by rfl) G.n_isinstance (by decide +kernel) (da_cons (de_m (dm_ix (de_n (pv 0)) de_int)) (da_cons (de_c (pe_bltn (by rfl) G.n_str (by decide +kernel) (show RelV (.ty "str") _ from rfl)) fun _ => .ty _) da_nil))) (dm_one (dm_cmp (od_in (Ev.hu192 hr)) (de_m (dm_ix (de_n (pv 0)) de_int)) (de_g (by rfl) G.g_PLAIN) (by with_unfolding_all rfl))))))))
theorem ok_are_pairs (F : Fun K "are_pairs" "are_pairs" s_are_pairs f fd) (G : Gs w K mg) (C : Cs P w K mg base n call) : FnG P w K mg base (n + 1) f fd ["thing"] (spD K 1 (g_are_pairs call)) :=
  have SC := sc_are_pairs
  fn_ok ["thing", "pair", "words", "word", "tree"] ["thing"] 1 5 (kpl [true]) (b_are_pairs call) (g_are_pairs call) rfl rfl rfl F SC fun cdv A outer s H E hr =>
  (dss_cons (ds_if (dt_not (dt_val (dm_call C.c_is_row hr (by rfl) (da_cons (de_n (pv 0)) da_nil) (many_cons many_nil))))
    (dss_one (ds_ret (dm_e de_bl)))
    dss_nil)
  (dss_cons (ds_for PassesOwn.never rfl (di_any (di_seq (de_n (pv 0)))) (dg_n rfl (pg_name (i := 1) SC.nd rfl (by first | exact .inl rfl | exact .inr rfl)))
    (dss_one (ds_if (dt_w (dw_or (dt_not (dt_val (dm_blt cd_isi (by rfl) G.n_isinstance (by decide +kernel) (da_cons (de_n (pv 1)) (da_cons (de_c (pe_bltn (by rfl) G.n_tuple (by decide +kernel) (show RelV (.ty "tuple") _ from rfl)) fun _ => .ty _) da_nil))))) (dw_or (dt_cmp (od_ne (Ev.hu192 hr)) (de_m (dm_blt cd_len (by rfl) G.n_len (by decide +kernel) (da_cons (de_n (pv 1)) da_nil))) de_int (nomark _)) (dw_or1 (dt_not (dt_val (dm_call C.c_is_word hr (by rfl) (da_cons (de_m (dm_ix (de_n (pv 1)) de_int)) da_nil) (many_cons many_nil))))))))
    (dss_one (ds_ret (dm_e de_bl)))
    dss_nil)))
  (dss_cons (ds_setLc (i := 2) (own := [("word", 3), ("tree", 4)]) rfl SC.nd rfl rfl rfl (sw_true rfl rfl rfl (by decide +kernel)) (di_any (di_seq (de_n (pv 0)))) (blkOk_by (own := [("word", 3), ("tree", 4)]) (N := ["thing", "pair", "words", "word", "tree"]) (sc := defScope s_are_pairs) (by decide +kernel)) (fun _ _ _ _ _ => (dg_t rfl (dgs_cons (dg_n rfl (pg_name (i := 3) SC.nd rfl (by first | exact .inl rfl | exact .inr rfl))) (dgs_cons (dg_n rfl (pg_name (i := 4) SC.nd rfl (by first | exact .inl rfl | exact .inr rfl))) dgs_nil)))) (fun _ _ _ _ _ => (dts_one (dt_not (dt_val (dm_call C.c_is_bare hr (by rfl) (da_cons (de_n (pv 4)) da_nil) (many_cons many_nil)))))) (fun _ _ _ _ _ => (de_n (pv 3))))
  (dss_one (ds_ret (dm_cmp (od_eq (Ev.hu192 hr)) (de_m (dm_lenSet (by rfl) (by rfl) G.n_len (by rfl) G.n_set (de_n (pv 2)))) (de_m (dm_blt cd_len (by rfl) G.n_len (by decide +kernel) (da_cons (de_n (pv 2)) da_nil))) (nomark _)))))))
theorem ok_has_words (F : Fun K "has_words" "has_words" s_has_words f fd) (G : Gs w K mg) (C : Cs P w K mg base n call) : FnG P w K mg base (n + 1) f fd ["thing"] (spD K 1 (g_has_words call)) :=
  have SC := sc_has_words
  fn_ok ["thing"] ["thing"] 1 1 (kpl [true]) (b_has_words call) (g_has_words call) rfl rfl rfl F SC fun cdv A outer s H E hr =>
  (dss_cons (ds_if (dt_cmp (od_eq (Ev.hu192 hr)) (de_m (dm_ix (de_n (pv 0)) de_int)) de_str (nomark _))
    (dss_one (ds_ret (dm_and (dm_call C.c_is_word hr (by rfl) (da_cons (de_m (dm_ix (de_n (pv 0)) de_int)) da_nil) (many_cons many_nil)) (dm_and (dm_call C.c_is_word hr (by rfl) (da_cons (de_m (dm_ix (de_n (pv 0)) de_int)) da_nil) (many_cons many_nil)) (dm_one (dm_cmp (od_ne (Ev.hu192 hr)) (de_m (dm_ix (de_n (pv 0)) de_int)) (de_m (dm_ix (de_n (pv 0)) de_int)) (nomark _)))))))
    dss_nil)
  (dss_cons (ds_if (dt_cmp (od_eq (Ev.hu192 hr)) (de_m (dm_ix (de_n (pv 0)) de_int)) de_str (nomark _))
    (dss_one (ds_ret (dm_call C.c_is_word hr (by rfl) (da_cons (de_m (dm_ix (de_n (pv 0)) de_int)) da_nil) (many_cons many_nil))))
    dss_nil)
  (dss_one (ds_ret (dm_call C.c_is_word hr (by rfl) (da_cons (de_m (dm_ix (de_n (pv 0)) de_int)) da_nil) (many_cons many_nil))))))
theorem ok_is_node (F : Fun K "is_node" "is_node" s_is_node f fd) (G : Gs w K mg) (C : Cs P w K mg base n call) : FnG P w K mg base (n + 1) f fd ["thing"] (spD K 1 (g_is_node call)) :=
  have SC := sc_is_node
  fn_ok ["thing"] ["thing"] 1 1 (kpl [true]) (b_is_node call) (g_is_node call) rfl rfl rfl F SC fun cdv A outer s H E hr =>
  (dss_cons (ds_if (dt_w (dw_or (dt_not (dt_val (dm_blt cd_isi (by rfl) G.n_isinstance (by decide +kernel) (da_cons (de_n (pv 0)) (da_cons (de_c (pe_bltn (by rfl) G.n_tuple (by decide +kernel) (show RelV (.ty "tuple") _ from rfl)) fun _ => .ty _) da_nil))))) (dw_or (dt_cmp (od_eq (Ev.hu192 hr)) (de_n (pv 0)) (de_m (dm_tup da_nil)) (nomark _)) (dw_or1 (dt_not (dt_val (dm_blt cd_isi (by rfl) G.n_isinstance (by decide +kernel) (da_cons (de_m (dm_ix (de_n (pv 0)) de_int)) (da_cons (de_c (pe_bltn (by rfl) G.n_str (by decide +kernel) (show RelV (.ty "str") _ from rfl)) fun _ => .ty _) da_nil)))))))))
    (dss_one (ds_ret (dm_e de_bl)))
    dss_nil)
  (dss_cons (ds_if (dt_w (dw_or (dt_ninT (by rfl) G.g_SHAPES (de_m (dm_ix (de_n (pv 0)) de_int))) (dw_or1 (dt_cmp (od_ne (Ev.hu192 hr)) (de_m (dm_blt cd_len (by rfl) G.n_len (by decide +kernel) (da_cons (de_n (pv 0)) da_nil))) (de_m (dm_ixT (by rfl) G.g_SHAPES (de_m (dm_ix (de_n (pv 0)) de_int)))) (nomark _)))))
    (dss_one (ds_ret (dm_e de_bl)))
    dss_nil)
  (dss_cons (ds_if (dt_cmp (od_in (Ev.hu192 hr)) (de_m (dm_ix (de_n (pv 0)) de_int)) (de_m (dm_tup (da_cons de_str (da_cons de_str da_nil)))) (by with_unfolding_all rfl))
    (dss_one (ds_ret (dm_call C.c_is_from_to hr (by rfl) (da_cons (de_m (dm_ix (de_n (pv 0)) de_int)) (da_cons de_int (da_cons (de_g (by rfl) G.g_MOST_NUMBER) da_nil))) (many_cons (many_cons (many_cons many_nil))))))
    dss_nil)
  (dss_cons (ds_if (dt_cmp (od_eq (Ev.hu192 hr)) (de_m (dm_ix (de_n (pv 0)) de_int)) de_str (nomark _))
    (dss_one (ds_ret (dm_blt cd_isi (by rfl) G.n_isinstance (by decide +kernel) (da_cons (de_m (dm_ix (de_n (pv 0)) de_int)) (da_cons (de_c (pe_bltn (by rfl) G.n_bool (by decide +kernel) (show RelV (.ty "bool") _ from rfl)) fun _ => .ty _) da_nil)))))
    dss_nil)
  (dss_cons (ds_if (dt_cmp (od_eq (Ev.hu192 hr)) (de_m (dm_ix (de_n (pv 0)) de_int)) de_str (nomark _))
    (dss_one (ds_ret (dm_and (dm_blt cd_isi (by rfl) G.n_isinstance (by decide +kernel) (da_cons (de_m (dm_ix (de_n (pv 0)) de_int)) (da_cons (de_c (pe_bltn (by rfl) G.n_str (by decide +kernel) (show RelV (.ty "str") _ from rfl)) fun _ => .ty _) da_nil))) (dm_one (dm_cmp (od_in (Ev.hu192 hr)) (de_m (dm_ix (de_n (pv 0)) de_int)) (de_g (by rfl) G.g_SIGNS) (by with_unfolding_all rfl))))))
    dss_nil)
  (dss_cons (ds_if (dt_cmp (od_eq (Ev.hu192 hr)) (de_m (dm_ix (de_n (pv 0)) de_int)) de_str (nomark _))
    (dss_one (ds_ret (dm_call C.c_is_from_to hr (by rfl) (da_cons (de_m (dm_ix (de_n (pv 0)) de_int)) (da_cons de_int (da_cons (de_g (by rfl) G.g_MOST_ARGS) da_nil))) (many_cons (many_cons (many_cons many_nil))))))
    dss_nil)
  (dss_cons (ds_if (dt_cmp (od_eq (Ev.hu192 hr)) (de_m (dm_ix (de_n (pv 0)) de_int)) de_str (nomark _))
    (dss_one (ds_ret (dm_call C.c_is_row hr (by rfl) (da_cons (de_m (dm_ix (de_n (pv 0)) de_int)) da_nil) (many_cons many_nil))))
    dss_nil)
  (dss_cons (ds_if (dt_cmp (od_in (Ev.hu192 hr)) (de_m (dm_ix (de_n (pv 0)) de_int)) (de_m (dm_tup (da_cons de_str (da_cons de_str da_nil)))) (by with_unfolding_all rfl))
    (dss_one (ds_ret (dm_e de_bl)))
    dss_nil)
  (dss_cons (ds_if (dt_cmp (od_eq (Ev.hu192 hr)) (de_m (dm_ix (de_n (pv 0)) de_int)) de_str (nomark _))
    (dss_one (ds_ret (dm_and (dm_call C.c_has_words hr (by rfl) (da_cons (de_n (pv 0)) da_nil) (many_cons many_nil)) (dm_one (dm_call C.c_is_row hr (by rfl) (da_cons (de_m (dm_ix (de_n (pv 0)) de_int)) da_nil) (many_cons many_nil))))))
    dss_nil)
  (dss_cons (ds_if (dt_cmp (od_eq (Ev.hu192 hr)) (de_m (dm_ix (de_n (pv 0)) de_int)) de_str (nomark _))
    (dss_one (ds_ret (dm_and (dm_call C.c_has_words hr (by rfl) (da_cons (de_n (pv 0)) da_nil) (many_cons many_nil)) (dm_one (dm_call C.c_are_pairs hr (by rfl) (da_cons (de_m (dm_ix (de_n (pv 0)) de_int)) da_nil) (many_cons many_nil))))))
    dss_nil)
  (dss_one (ds_ret (dm_call C.c_has_words hr (by rfl) (da_cons (de_n (pv 0)) da_nil) (many_cons many_nil))))))))))))))
theorem ok_parts_of (F : Fun K "parts_of" "parts_of" s_parts_of f fd) (G : Gs w K mg) (C : Cs P w K mg base n call) : FnG P w K mg base (n + 1) f fd ["tree"] (spD K 1 (g_parts_of call)) :=
  have SC := sc_parts_of
  fn_ok ["tree", "word", "part"] ["tree"] 1 3 (kpl [true]) (b_parts_of call) (g_parts_of call) rfl rfl rfl F SC fun cdv A outer s H E hr =>
  (dss_cons (ds_if (dt_cmp (od_in (Ev.hu192 hr)) (de_m (dm_ix (de_n (pv 0)) de_int)) (de_m (dm_tup (da_cons de_str (da_cons de_str (da_cons de_str (da_cons de_str da_nil)))))) (by with_unfolding_all rfl))
    (dss_one (ds_ret (dm_lst da_nil)))
    dss_nil)
  (dss_cons (ds_if (dt_cmp (od_in (Ev.hu192 hr)) (de_m (dm_ix (de_n (pv 0)) de_int)) (de_m (dm_tup (da_cons de_str (da_cons de_str (da_cons de_str (da_cons de_str da_nil)))))) (by with_unfolding_all rfl))
    (dss_one (ds_ret (dm_bty cd_list (by rfl) G.n_list (by decide +kernel) (da_cons (de_m (dm_sl (de_n (pv 0)) (dp_ix de_int) dp_no)) da_nil))))
    dss_nil)
  (dss_cons (ds_if (dt_cmp (od_in (Ev.hu192 hr)) (de_m (dm_ix (de_n (pv 0)) de_int)) (de_m (dm_tup (da_cons de_str (da_cons de_str da_nil)))) (by with_unfolding_all rfl))
    (dss_one (ds_ret (dm_bty cd_list (by rfl) G.n_list (by decide +kernel) (da_cons (de_m (dm_sl (de_n (pv 0)) (dp_ix de_int) dp_no)) da_nil))))
    dss_nil)
  (dss_cons (ds_if (dt_cmp (od_eq (Ev.hu192 hr)) (de_m (dm_ix (de_n (pv 0)) de_int)) de_str (nomark _))
    (dss_one (ds_ret (dm_bty cd_list (by rfl) G.n_list (by decide +kernel) (da_cons (de_m (dm_ix (de_n (pv 0)) de_int)) da_nil))))
    dss_nil)
  (dss_cons (ds_if (dt_cmp (od_eq (Ev.hu192 hr)) (de_m (dm_ix (de_n (pv 0)) de_int)) de_str (nomark _))
    (dss_one (ds_ret (dm_lst (da_cons (de_m (dm_ix (de_n (pv 0)) de_int)) (da_cons (de_m (dm_ix (de_n (pv 0)) de_int)) (da_cons (de_m (dm_ix (de_n (pv 0)) de_int)) da_nil))))))
    dss_nil)
  (dss_cons (ds_if (dt_cmp (od_eq (Ev.hu192 hr)) (de_m (dm_ix (de_n (pv 0)) de_int)) de_str (nomark _))
    (dss_one (ds_ret (dm_lst (da_cons (de_m (dm_ix (de_n (pv 0)) de_int)) (da_cons (de_m (dm_ix (de_n (pv 0)) de_int)) da_nil)))))
    dss_nil)
  (dss_cons (ds_if (dt_cmp (od_eq (Ev.hu192 hr)) (de_m (dm_ix (de_n (pv 0)) de_int)) de_str (nomark _))
    (dss_one (ds_ret (dm_bty cd_list (by rfl) G.n_list (by decide +kernel) (da_cons (de_m (dm_ix (de_n (pv 0)) de_int)) da_nil))))
    dss_nil)
  (dss_one (ds_ret (dm_bin od_add (de_m (dm_lc (own := [("word", 1), ("part", 2)]) rfl SC.nd (di_any (di_seq (de_m (dm_ix (de_n (pv 0)) de_int)))) (blkOk_by (own := [("word", 1), ("part", 2)]) (N := ["tree", "word", "part"]) (sc := defScope s_parts_of) (by decide +kernel)) (fun _ _ _ _ _ => (dg_t rfl (dgs_cons (dg_n rfl (pg_name (i := 1) SC.nd rfl (by first | exact .inl rfl | exact .inr rfl))) (dgs_cons (dg_n rfl (pg_name (i := 2) SC.nd rfl (by first | exact .inl rfl | exact .inr rfl))) dgs_nil)))) (fun _ _ _ _ _ => dts_nil) (fun _ _ _ _ _ => (de_n (pv 2))))) (de_m (dm_lst (da_cons (de_m (dm_ix (de_n (pv 0)) de_int)) da_nil)))))))))))))
theorem ok_counted_parts (F : Fun K "counted_parts" "counted_parts" s_counted_parts f fd) (G : Gs w K mg) (C : Cs P w K mg base n call) : FnG P w K mg base (n + 1) f fd ["tree"] (spD K 1 (g_counted_parts call)) :=
  have SC := sc_counted_parts
  fn_ok ["tree", "word", "part"] ["tree"] 1 3 (kpl [true]) (b_counted_parts call) (g_counted_parts call) rfl rfl rfl F SC fun cdv A outer s H E hr =>
  (dss_cons (ds_if (dt_cmp (od_ne (Ev.hu192 hr)) (de_m (dm_ix (de_n (pv 0)) de_int)) de_str (nomark _))
    (dss_one (ds_ret (dm_call C.c_parts_of hr (by rfl) (da_cons (de_n (pv 0)) da_nil) (many_cons many_nil))))
    dss_nil)
  (dss_one (ds_ret (dm_bin od_add (de_m (dm_lc (own := [("word", 1), ("part", 2)]) rfl SC.nd (di_any (di_seq (de_m (dm_ix (de_n (pv 0)) de_int)))) (blkOk_by (own := [("word", 1), ("part", 2)]) (N := ["tree", "word", "part"]) (sc := defScope s_counted_parts) (by decide +kernel)) (fun _ _ _ _ _ => (dg_t rfl (dgs_cons (dg_n rfl (pg_name (i := 1) SC.nd rfl (by first | exact .inl rfl | exact .inr rfl))) (dgs_cons (dg_n rfl (pg_name (i := 2) SC.nd rfl (by first | exact .inl rfl | exact .inr rfl))) dgs_nil)))) (fun _ _ _ _ _ => (dts_one (dt_not (dt_val (dm_call C.c_is_bare hr (by rfl) (da_cons (de_n (pv 2)) da_nil) (many_cons many_nil)))))) (fun _ _ _ _ _ => (de_n (pv 2))))) (de_m (dm_lst (da_cons (de_m (dm_ix (de_n (pv 0)) de_int)) da_nil)))))))
theorem ok_is_tree (F : Fun K "is_tree" "is_tree" s_is_tree f fd) (G : Gs w K mg) (C : Cs P w K mg base n call) : FnG P w K mg base (n + 1) f fd ["thing"] (spD K 1 (g_is_tree call)) :=
  have SC := sc_is_tree
  fn_ok ["thing", "waiting", "many", "part", "one", "depth"] ["thing"] 1 6 (kpl [true]) (b_is_tree call) (g_is_tree call) rfl rfl rfl F SC fun cdv A outer s H E hr =>
  (dss_cons (ds_set (i := 1) SC.nd rfl (by first | exact .inl rfl | exact .inr rfl) rfl (dm_lst (da_cons (de_m (dm_tup (da_cons (de_n (pv 0)) (da_cons de_int da_nil)))) da_nil)))
  (dss_cons (ds_set (i := 2) SC.nd rfl (by first | exact .inl rfl | exact .inr rfl) rfl (dm_e de_int))
  (dss_cons (ds_while PassesOwn.never (dt_cmp (od_ne (Ev.hu192 hr)) (de_n (pv 1)) (de_m (dm_lst da_nil)) (nomark _))
    (dss_cons (ds_asg (de_m (dm_pop (pv 1))) (dg_t rfl (dgs_cons (dg_n rfl (pg_name (i := 4) SC.nd rfl (by first | exact .inl rfl | exact .inr rfl))) (dgs_cons (dg_n rfl (pg_name (i := 5) SC.nd rfl (by first | exact .inl rfl | exact .inr rfl))) dgs_nil))))
  (dss_cons (ds_if (dt_w (dw_or (dt_cmp od_gt (de_n (pv 5)) (de_g (by rfl) G.g_MOST_DEPTH) (nomark _)) (dw_or1 (dt_not (dt_val (dm_call C.c_is_node hr (by rfl) (da_cons (de_n (pv 4)) da_nil) (many_cons many_nil)))))))
    (dss_one (ds_ret (dm_e de_bl)))
    dss_nil)
  (dss_cons (ds_aug (i := 2) SC.nd rfl (by first | exact .inl rfl | exact .inr rfl) rfl de_int oi_add)
  (dss_cons (ds_for PassesOwn.never rfl (di_any (di_seq (de_m (dm_call C.c_parts_of hr (by rfl) (da_cons (de_n (pv 4)) da_nil) (many_cons many_nil))))) (dg_n rfl (pg_name (i := 3) SC.nd rfl (by first | exact .inl rfl | exact .inr rfl)))
    (dss_one (ds_expr (dm_app (pv 1) (de_m (dm_tup (da_cons (de_n (pv 3)) (da_cons (de_m (dm_bin od_add (de_n (pv 5)) de_int)) da_nil))))))))
  (dss_cons (ds_if (dt_cmp (od_eq (Ev.hu192 hr)) (de_m (dm_ix (de_n (pv 4)) de_int)) de_str (nomark _))
    (dss_one (ds_set (i := 2) SC.nd rfl (by first | exact .inl rfl | exact .inr rfl) rfl (dm_bin od_add (de_m (dm_bin od_sub (de_n (pv 2)) (de_m (dm_blt cd_len (by rfl) G.n_len (by decide +kernel) (da_cons (de_m (dm_call C.c_parts_of hr (by rfl) (da_cons (de_n (pv 4)) da_nil) (many_cons many_nil))) da_nil))))) (de_m (dm_blt cd_len (by rfl) G.n_len (by decide +kernel) (da_cons (de_m (dm_call C.c_counted_parts hr (by rfl) (da_cons (de_n (pv 4)) da_nil) (many_cons many_nil))) da_nil))))))
    dss_nil)
  (dss_one (ds_if (dt_cmp od_gt (de_n (pv 2)) (de_g (by rfl) G.g_MOST_NODES) (nomark _))
    (dss_one (ds_ret (dm_e de_bl)))
    dss_nil))))))))
  (dss_one (ds_ret (dm_e de_bl))))))
theorem ok_with_parts (F : Fun K "with_parts" "with_parts" s_with_parts f fd) (G : Gs w K mg) (C : Cs P w K mg base n call) : FnG P w K mg base (n + 1) f fd ["tree", "parts"] (spD K 2 (g_with_parts call)) :=
  have SC := sc_with_parts
  fn_ok ["tree", "parts", "body", "row", "pair", "part"] ["tree", "parts"] 2 6 (kpl [true, true]) (b_with_parts call) (g_with_parts call) rfl rfl rfl F SC fun cdv A outer s H E hr =>
  (dss_cons (ds_if (dt_cmp (od_in (Ev.hu192 hr)) (de_m (dm_ix (de_n (pv 0)) de_int)) (de_m (dm_tup (da_cons de_str (da_cons de_str (da_cons de_str (da_cons de_str da_nil)))))) (by with_unfolding_all rfl))
    (dss_one (ds_retV (pv 0)))
    dss_nil)
  (dss_cons (ds_if (dt_cmp (od_in (Ev.hu192 hr)) (de_m (dm_ix (de_n (pv 0)) de_int)) (de_m (dm_tup (da_cons de_str (da_cons de_str (da_cons de_str (da_cons de_str da_nil)))))) (by with_unfolding_all rfl))
    (dss_one (ds_ret (dm_bin od_add (de_m (dm_sl (de_n (pv 0)) dp_no (dp_ix de_int))) (de_m (dm_bty cd_tuple (by rfl) G.n_tuple (by decide +kernel) (da_cons (de_n (pv 1)) da_nil))))))
    dss_nil)
  (dss_cons (ds_if (dt_cmp (od_in (Ev.hu192 hr)) (de_m (dm_ix (de_n (pv 0)) de_int)) (de_m (dm_tup (da_cons de_str (da_cons de_str da_nil)))) (by with_unfolding_all rfl))
    (dss_one (ds_ret (dm_bin od_add (de_m (dm_sl (de_n (pv 0)) dp_no (dp_ix de_int))) (de_m (dm_bty cd_tuple (by rfl) G.n_tuple (by decide +kernel) (da_cons (de_n (pv 1)) da_nil))))))
    dss_nil)
  (dss_cons (ds_if (dt_cmp (od_eq (Ev.hu192 hr)) (de_m (dm_ix (de_n (pv 0)) de_int)) de_str (nomark _))
    (dss_one (ds_ret (dm_tup (da_cons de_str (da_cons (de_m (dm_bty cd_tuple (by rfl) G.n_tuple (by decide +kernel) (da_cons (de_n (pv 1)) da_nil))) da_nil)))))
    dss_nil)
  (dss_cons (ds_if (dt_cmp (od_eq (Ev.hu192 hr)) (de_m (dm_ix (de_n (pv 0)) de_int)) de_str (nomark _))
    (dss_one (ds_ret (dm_tup (da_cons de_str (da_cons (de_m (dm_ix (de_n (pv 0)) de_int)) (da_cons (de_m (dm_ix (de_n (pv 1)) de_int)) (da_cons (de_m (dm_ix (de_n (pv 0)) de_int)) (da_cons (de_m (dm_ix (de_n (pv 1)) de_int)) (da_cons (de_m (dm_ix (de_n (pv 1)) de_int)) da_nil)))))))))
    dss_nil)
  (dss_cons (ds_if (dt_cmp (od_eq (Ev.hu192 hr)) (de_m (dm_ix (de_n (pv 0)) de_int)) de_str (nomark _))
    (dss_one (ds_ret (dm_tup (da_cons de_str (da_cons (de_m (dm_ix (de_n (pv 1)) de_int)) (da_cons (de_m (dm_ix (de_n (pv 0)) de_int)) (da_cons (de_m (dm_ix (de_n (pv 1)) de_int)) da_nil)))))))
    dss_nil)
  (dss_cons (ds_if (dt_cmp (od_eq (Ev.hu192 hr)) (de_m (dm_ix (de_n (pv 0)) de_int)) de_str (nomark _))
    (dss_one (ds_ret (dm_tup (da_cons de_str (da_cons (de_m (dm_ix (de_n (pv 0)) de_int)) (da_cons (de_m (dm_bty cd_tuple (by rfl) G.n_tuple (by decide +kernel) (da_cons (de_n (pv 1)) da_nil))) da_nil))))))
    dss_nil)
  (dss_cons (ds_starL (i := 2) (j := 3) rfl SC.nd rfl rfl rfl rfl rfl rfl (de_n (pv 1)))
  (dss_one (ds_ret (dm_tup (da_cons de_str (da_cons (de_m (dm_ix (de_n (pv 0)) de_int)) (da_cons (de_m (dm_bty cd_tuple (by rfl) G.n_tuple (by decide +kernel) (da_cons (de_m (dm_lc (own := [("pair", 4), ("part", 5)]) rfl SC.nd (di_zip (by rfl) G.n_zip (da_cons (de_m (dm_ix (de_n (pv 0)) de_int)) (da_cons (de_n (pv 3)) da_nil))) (blkOk_by (own := [("pair", 4), ("part", 5)]) (N := ["tree", "parts", "body", "row", "pair", "part"]) (sc := defScope s_with_parts) (by decide +kernel)) (fun _ _ _ _ _ => (dg_t rfl (dgs_cons (dg_n rfl (pg_name (i := 4) SC.nd rfl (by first | exact .inl rfl | exact .inr rfl))) (dgs_cons (dg_n rfl (pg_name (i := 5) SC.nd rfl (by first | exact .inl rfl | exact .inr rfl))) dgs_nil)))) (fun _ _ _ _ _ => dts_nil) (fun _ _ _ _ _ => (de_m (dm_tup (da_cons (de_m (dm_ix (de_n (pv 4)) de_int)) (da_cons (de_n (pv 5)) da_nil))))))) da_nil))) (da_cons (de_n (pv 2)) da_nil)))))))))))))))
theorem ok_thawed (F : Fun K "thawed" "thawed" s_thawed f fd) (G : Gs w K mg) (C : Cs P w K mg base n call) : FnG P w K mg base (n + 1) f fd ["tree"] (spD K 1 (g_thawed call)) :=
  have SC := sc_thawed
  fn_ok ["tree", "part", "word"] ["tree"] 1 3 (kpl [true]) (b_thawed call) (g_thawed call) rfl rfl rfl F SC fun cdv A outer s H E hr =>
  (dss_cons (ds_if (dt_cmp (od_eq (Ev.hu192 hr)) (de_m (dm_ix (de_n (pv 0)) de_int)) de_str (nomark _))
    (dss_one (ds_ret (dm_tup (da_cons de_str (da_cons (de_m (dm_ix (de_n (pv 0)) de_int)) (da_cons (de_m (dm_bty cd_tuple (by rfl) G.n_tuple (by decide +kernel) (da_cons (de_m (dm_lc (own := [("word", 2), ("part", 1)]) rfl SC.nd (di_any (di_seq (de_m (dm_ix (de_n (pv 0)) de_int)))) (blkOk_by (own := [("word", 2), ("part", 1)]) (N := ["tree", "part", "word"]) (sc := defScope s_thawed) (by decide +kernel)) (fun _ _ _ _ _ => (dg_t rfl (dgs_cons (dg_n rfl (pg_name (i := 2) SC.nd rfl (by first | exact .inl rfl | exact .inr rfl))) (dgs_cons (dg_n rfl (pg_name (i := 1) SC.nd rfl (by first | exact .inl rfl | exact .inr rfl))) dgs_nil)))) (fun _ _ _ _ _ => dts_nil) (fun _ _ _ _ _ => (de_m (dm_call C.c_thawed hr (by rfl) (da_cons (de_n (pv 1)) da_nil) (many_cons many_nil)))))) da_nil))) da_nil))))))
    dss_nil)
  (dss_one (ds_ret (dm_call C.c_with_parts hr (by rfl) (da_cons (de_n (pv 0)) (da_cons (de_m (dm_lc (own := [("part", 1)]) rfl SC.nd (di_any (di_seq (de_m (dm_call C.c_parts_of hr (by rfl) (da_cons (de_n (pv 0)) da_nil) (many_cons many_nil))))) (blkOk_by (own := [("part", 1)]) (N := ["tree", "part", "word"]) (sc := defScope s_thawed) (by decide +kernel)) (fun _ _ _ _ _ => (dg_n rfl (pg_name (i := 1) SC.nd rfl (by first | exact .inl rfl | exact .inr rfl)))) (fun _ _ _ _ _ => dts_nil) (fun _ _ _ _ _ => (de_m (dm_call C.c_thawed hr (by rfl) (da_cons (de_n (pv 1)) da_nil) (many_cons many_nil)))))) da_nil)) (many_cons (many_cons many_nil))))))
theorem ok__law_bag (F : Fun K "_law_bag" "_law_bag" s__law_bag f fd) (G : Gs w K mg) (C : Cs P w K mg base n call) : FnG P w K mg base (n + 1) f fd ["_law_script"] (spD K 1 (g__law_bag call)) :=
  have SC := sc__law_bag
  fn_ok ["_law_script", "_law_cell"] ["_law_script"] 1 2 (kpl [true]) (b__law_bag call) (g__law_bag call) rfl rfl rfl F SC fun cdv A outer s H E hr =>
  (dss_one (ds_ret (dm_lst (da_cons de_int (da_cons de_int (da_cons de_int (da_cons (de_m (dm_lc (own := [("_law_cell", 1)]) rfl SC.nd (di_any (di_seq (de_m (dm_sl (de_n (pv 0)) dp_no (dp_ix de_int))))) (blkOk_by (own := [("_law_cell", 1)]) (N := ["_law_script", "_law_cell"]) (sc := defScope s__law_bag) (by decide +kernel)) (fun _ _ _ _ _ => (dg_n rfl (pg_name (i := 1) SC.nd rfl (by first | exact .inl rfl | exact .inr rfl)))) (fun _ _ _ _ _ => dts_nil) (fun _ _ _ _ _ => (de_m (dm_blt cd_abs (by rfl) G.n_abs (by decide +kernel) (da_cons (de_n (pv 1)) da_nil)))))) da_nil)))))))
theorem ok__law_take (F : Fun K "_law_take" "_law_take" s__law_take f fd) (G : Gs w K mg) (C : Cs P w K mg base n call) : FnG P w K mg base (n + 1) f fd ["_law_bag_here", "_law_many"] (spD K 2 (g__law_take call)) :=
  have SC := sc__law_take
  fn_ok ["_law_bag_here", "_law_many", "_law_first", "_law_second", "_law_cell", "_law_value"] ["_law_bag_here", "_law_many"] 2 6 (kpl [true, true]) (b__law_take call) (g__law_take call) rfl rfl rfl F SC fun cdv A outer s H E hr =>
  (dss_cons (ds_if (dt_cmp (od_eq (Ev.hu192 hr)) (de_m (dm_ix (de_n (pv 0)) de_int)) de_int (nomark _))
    (dss_cons (ds_set (i := 4) SC.nd rfl (by first | exact .inl rfl | exact .inr rfl) rfl (dm_e de_int))
  (dss_cons (ds_if (dt_cmp od_lt (de_m (dm_ix (de_n (pv 0)) de_int)) (de_m (dm_blt cd_len (by rfl) G.n_len (by decide +kernel) (da_cons (de_m (dm_ix (de_n (pv 0)) de_int)) da_nil))) (nomark _))
    (dss_one (ds_set (i := 4) SC.nd rfl (by first | exact .inl rfl | exact .inr rfl) rfl (dm_ix (de_m (dm_ix (de_n (pv 0)) de_int)) (de_m (dm_ix (de_n (pv 0)) de_int)))))
    dss_nil)
  (dss_cons (ds_augIx (pv 0) de_int de_int oi_add)
  (dss_cons (ds_if (dt_cmp od_ge (de_n (pv 4)) de_int (nomark _))
    (dss_one (ds_setIx (de_n (pv 4)) (pv 0) de_int))
    dss_nil)
  (dss_one (ds_setIx (de_m (dm_bin od_mod (de_m (dm_bin od_add (de_m (dm_bin od_add (de_m (dm_bin od_mul (de_m (dm_ix (de_n (pv 0)) de_int)) de_int)) (de_m (dm_bin od_mod (de_n (pv 4)) de_int)))) (de_m (dm_bin od_mul de_int (de_m (dm_ix (de_n (pv 0)) de_int)))))) de_int)) (pv 0) de_int))))))
    dss_nil)
  (dss_cons (ds_if (dt_cmp od_gt (de_m (dm_ix (de_n (pv 0)) de_int)) de_int (nomark _))
    (dss_cons (ds_set (i := 5) SC.nd rfl (by first | exact .inl rfl | exact .inr rfl) rfl (dm_bin od_mod (de_m (dm_ix (de_n (pv 0)) de_int)) (de_n (pv 1))))
  (dss_cons (ds_setIx (de_m (dm_bin od_fdiv (de_m (dm_ix (de_n (pv 0)) de_int)) (de_n (pv 1)))) (pv 0) de_int)
  (dss_one (ds_retV (pv 5)))))
    dss_nil)
  (dss_cons (ds_set (i := 2) SC.nd rfl (by first | exact .inl rfl | exact .inr rfl) rfl (dm_bin od_mod (de_m (dm_bin od_mul (de_m (dm_bin od_add (de_m (dm_ix (de_n (pv 0)) de_int)) de_int)) de_int)) de_int))
  (dss_cons (ds_set (i := 3) SC.nd rfl (by first | exact .inl rfl | exact .inr rfl) rfl (dm_bin od_mod (de_m (dm_bin od_mul (de_m (dm_bin od_mod (de_m (dm_bin od_mul (de_n (pv 2)) (de_n (pv 2)))) de_int)) de_int)) de_int))
  (dss_cons (ds_if (dt_cmp od_gt (de_n (pv 1)) de_int (nomark _))
    (dss_one (ds_ret (dm_bin od_mod (de_m (dm_bin od_add (de_m (dm_bin od_mul (de_n (pv 3)) de_int)) (de_n (pv 2)))) (de_n (pv 1)))))
    dss_nil)
  (dss_one (ds_ret (dm_bin od_mod (de_m (dm_bin od_fdiv (de_n (pv 3)) de_int)) (de_n (pv 1))))))))))
theorem ok__law_words (F : Fun K "_law_words" "_law_words" s__law_words f fd) (G : Gs w K mg) (C : Cs P w K mg base n call) : FnG P w K mg base (n + 1) f fd ["_law_bag_here", "_law_many"] (spD K 2 (g__law_words call)) :=
  have SC := sc__law_words
  fn_ok ["_law_bag_here", "_law_many", "_law_letters", "_law_some", "_law_way", "_law_turn", "_law_base", "_law_tails", "_law_at", "_law_k", "_law_tail"] ["_law_bag_here", "_law_many"] 2 11 (kpl [true, true]) (b__law_words call) (g__law_words call) rfl rfl rfl F SC fun cdv A outer s H E hr =>
  (dss_cons (ds_set (i := 2) SC.nd rfl (by first | exact .inl rfl | exact .inr rfl) rfl (dm_e de_str))
  (dss_cons (ds_set (i := 3) SC.nd rfl (by first | exact .inl rfl | exact .inr rfl) rfl (dm_lst (da_cons de_str (da_cons de_str (da_cons de_str (da_cons de_str (da_cons de_str (da_cons de_str (da_cons de_str (da_cons de_str (da_cons de_str (da_cons de_str (da_cons de_str (da_cons de_str (da_cons de_str da_nil)))))))))))))))
  (dss_cons (ds_set (i := 4) SC.nd rfl (by first | exact .inl rfl | exact .inr rfl) rfl (dm_call C.c__law_take hr (by rfl) (da_cons (de_n (pv 0)) (da_cons de_int da_nil)) (many_cons (many_cons many_nil))))
  (dss_cons (ds_set (i := 5) SC.nd rfl (by first | exact .inl rfl | exact .inr rfl) rfl (dm_call C.c__law_take hr (by rfl) (da_cons (de_n (pv 0)) (da_cons de_int da_nil)) (many_cons (many_cons many_nil))))
  (dss_cons (ds_set (i := 6) SC.nd rfl (by first | exact .inl rfl | exact .inr rfl) rfl (dm_bin od_mul (de_m (dm_ix (de_n (pv 2)) (de_m (dm_call C.c__law_take hr (by rfl) (da_cons (de_n (pv 0)) (da_cons de_int da_nil)) (many_cons (many_cons many_nil)))))) (de_m (dm_bin od_add de_int (de_m (dm_call C.c__law_take hr (by rfl) (da_cons (de_n (pv 0)) (da_cons de_int da_nil)) (many_cons (many_cons many_nil))))))))
  (dss_cons (ds_if (dt_cmp (od_eq (Ev.hu192 hr)) (de_n (pv 4)) de_int (nomark _))
    (dss_cons (ds_set (i := 7) SC.nd rfl (by first | exact .inl rfl | exact .inr rfl) rfl (dm_lst (da_cons de_str (da_cons de_str (da_cons de_str (da_cons de_str (da_cons de_str (da_cons de_str (da_cons de_str (da_cons de_str (da_cons de_str (da_cons de_str (da_cons de_str (da_cons de_str da_nil))))))))))))))
  (dss_cons (ds_set (i := 7) SC.nd rfl (by first | exact .inl rfl | exact .inr rfl) rfl (dm_bin od_add (de_m (dm_sl (de_n (pv 7)) (dp_ix (de_m (dm_bin od_mod (de_n (pv 5)) de_int))) dp_no)) (de_m (dm_sl (de_n (pv 7)) dp_no (dp_ix (de_m (dm_bin od_mod (de_n (pv 5)) de_int)))))))
  (dss_one (ds_ret (dm_lc (own := [("_law_tail", 10)]) rfl SC.nd (di_any (di_seq (de_m (dm_sl (de_n (pv 7)) dp_no (dp_ix (de_n (pv 1))))))) (blkOk_by (own := [("_law_tail", 10)]) (N := ["_law_bag_here", "_law_many", "_law_letters", "_law_some", "_law_way", "_law_turn", "_law_base", "_law_tails", "_law_at", "_law_k", "_law_tail"]) (sc := defScope s__law_words) (by decide +kernel)) (fun _ _ _ _ _ => (dg_n rfl (pg_name (i := 10) SC.nd rfl (by first | exact .inl rfl | exact .inr rfl)))) (fun _ _ _ _ _ => dts_nil) (fun _ _ _ _ _ => (de_m (dm_bin od_add (de_n (pv 6)) (de_n (pv 10))))))))))
    dss_nil)
  (dss_cons (ds_if (dt_cmp (od_eq (Ev.hu192 hr)) (de_n (pv 4)) de_int (nomark _))
    (dss_one (ds_ret (dm_sl (de_m (dm_bin od_add (de_m (dm_sl (de_n (pv 3)) (dp_ix (de_m (dm_bin od_mod (de_n (pv 5)) de_int))) dp_no)) (de_m (dm_sl (de_n (pv 3)) dp_no (dp_ix (de_m (dm_bin od_mod (de_n (pv 5)) de_int))))))) dp_no (dp_ix (de_n (pv 1))))))
    dss_nil)
  (dss_cons (ds_if (dt_cmp (od_eq (Ev.hu192 hr)) (de_n (pv 4)) de_int (nomark _))
    (dss_cons (ds_set (i := 6) SC.nd rfl (by first | exact .inl rfl | exact .inr rfl) rfl (dm_bin od_add (de_n (pv 6)) (de_m (dm_bin od_mul (de_n (pv 6)) (de_m (dm_bty cd_int (by rfl) G.n_int (by decide +kernel) (da_cons (de_m (dm_cmp (od_eq (Ev.hu192 hr)) (de_m (dm_blt cd_len (by rfl) G.n_len (by decide +kernel) (da_cons (de_n (pv 6)) da_nil))) de_int (nomark _))) da_nil)))))))
  (dss_cons (ds_set (i := 8) SC.nd rfl (by first | exact .inl rfl | exact .inr rfl) rfl (dm_bin od_mod (de_n (pv 5)) (de_m (dm_blt cd_len (by rfl) G.n_len (by decide +kernel) (da_cons (de_n (pv 6)) da_nil)))))
  (dss_one (ds_ret (dm_lc (own := [("_law_k", 9)]) rfl SC.nd (di_any (di_rng1 (by rfl) G.n_range (de_n (pv 1)))) (blkOk_by (own := [("_law_k", 9)]) (N := ["_law_bag_here", "_law_many", "_law_letters", "_law_some", "_law_way", "_law_turn", "_law_base", "_law_tails", "_law_at", "_law_k", "_law_tail"]) (sc := defScope s__law_words) (by decide +kernel)) (fun _ _ _ _ _ => (dg_n rfl (pg_name (i := 9) SC.nd rfl (by first | exact .inl rfl | exact .inr rfl)))) (fun _ _ _ _ _ => dts_nil) (fun _ _ _ _ _ => (de_m (dm_bin od_add (de_m (dm_bin od_add (de_m (dm_sl (de_n (pv 6)) dp_no (dp_ix (de_n (pv 8))))) (de_m (dm_ix (de_n (pv 2)) (de_m (dm_bin od_mod (de_m (dm_bin od_add (de_n (pv 5)) (de_n (pv 9)))) de_int)))))) (de_m (dm_sl (de_n (pv 6)) (dp_ix (de_m (dm_bin od_add (de_n (pv 8)) de_int))) dp_no))))))))))
    dss_nil)
  (dss_one (ds_ret (dm_lc (own := [("_law_k", 9)]) rfl SC.nd (di_any (di_rng1 (by rfl) G.n_range (de_n (pv 1)))) (blkOk_by (own := [("_law_k", 9)]) (N := ["_law_bag_here", "_law_many", "_law_letters", "_law_some", "_law_way", "_law_turn", "_law_base", "_law_tails", "_law_at", "_law_k", "_law_tail"]) (sc := defScope s__law_words) (by decide +kernel)) (fun _ _ _ _ _ => (dg_n rfl (pg_name (i := 9) SC.nd rfl (by first | exact .inl rfl | exact .inr rfl)))) (fun _ _ _ _ _ => dts_nil) (fun _ _ _ _ _ => (de_m (dm_bin od_add (de_m (dm_ix (de_n (pv 2)) (de_m (dm_bin od_mod (de_m (dm_bin od_add (de_n (pv 5)) (de_m (dm_bin od_fdiv (de_n (pv 9)) de_int)))) de_int)))) (de_m (dm_ix (de_m (dm_lst (da_cons de_str (da_cons de_str (da_cons de_str da_nil))))) (de_m (dm_bin od_mod (de_n (pv 9)) de_int))))))))))))))))))
theorem ok__law_plain (F : Fun K "_law_plain" "_law_plain" s__law_plain f fd) (G : Gs w K mg) (C : Cs P w K mg base n call) : FnG P w K mg base (n + 1) f fd ["_law_bag_here", "_law_scope"] (spD K 2 (g__law_plain call)) :=
  have SC := sc__law_plain
  fn_ok ["_law_bag_here", "_law_scope", "_law_way"] ["_law_bag_here", "_law_scope"] 2 3 (kpl [true, true]) (b__law_plain call) (g__law_plain call) rfl rfl rfl F SC fun cdv A outer s H E hr =>
  (dss_cons (ds_set (i := 2) SC.nd rfl (by first | exact .inl rfl | exact .inr rfl) rfl (dm_call C.c__law_take hr (by rfl) (da_cons (de_n (pv 0)) (da_cons de_int da_nil)) (many_cons (many_cons many_nil))))
  (dss_cons (ds_if (dt_w (dw_and (dt_cmp od_gt (de_n (pv 2)) de_int (nomark _)) (dw_and1 (dt_cmp (od_ne (Ev.hu192 hr)) (de_n (pv 1)) (de_m (dm_lst da_nil)) (nomark _)))))
    (dss_one (ds_ret (dm_tup (da_cons de_str (da_cons (de_m (dm_ix (de_n (pv 1)) (de_m (dm_call C.c__law_take hr (by rfl) (da_cons (de_n (pv 0)) (da_cons (de_m (dm_blt cd_len (by rfl) G.n_len (by decide +kernel) (da_cons (de_n (pv 1)) da_nil))) da_nil)) (many_cons (many_cons many_nil)))))) da_nil)))))
    dss_nil)
  (dss_cons (ds_if (dt_cmp (od_eq (Ev.hu192 hr)) (de_n (pv 2)) de_int (nomark _))
    (dss_one (ds_ret (dm_tup (da_cons de_str (da_cons (de_m (dm_cmp (od_eq (Ev.hu192 hr)) (de_m (dm_call C.c__law_take hr (by rfl) (da_cons (de_n (pv 0)) (da_cons de_int da_nil)) (many_cons (many_cons many_nil)))) de_int (nomark _))) da_nil)))))
    dss_nil)
  (dss_cons (ds_if (dt_cmp (od_eq (Ev.hu192 hr)) (de_m (dm_call C.c__law_take hr (by rfl) (da_cons (de_n (pv 0)) (da_cons de_int da_nil)) (many_cons (many_cons many_nil)))) de_int (nomark _))
    (dss_one (ds_ret (dm_tup (da_cons de_str (da_cons (de_m (dm_call C.c__law_take hr (by rfl) (da_cons (de_n (pv 0)) (da_cons (de_m (dm_bin od_add (de_m (dm_bin od_pow de_int de_int)) de_int)) da_nil)) (many_cons (many_cons many_nil)))) da_nil)))))
    dss_nil)
  (dss_one (ds_ret (dm_tup (da_cons de_str (da_cons (de_m (dm_call C.c__law_take hr (by rfl) (da_cons (de_n (pv 0)) (da_cons de_int da_nil)) (many_cons (many_cons many_nil)))) da_nil)))))))))
theorem ok__law_node (F : Fun K "_law_node" "_law_node" s__law_node f fd) (G : Gs w K mg) (C : Cs P w K mg base n call) : FnG P w K mg base (n + 1) f fd ["_law_bag_here", "_law_way", "_law_head", "_law_some", "_law_two"] (spD K 5 (g__law_node call)) :=
  have SC := sc__law_node
  fn_ok ["_law_bag_here", "_law_way", "_law_head", "_law_some", "_law_two", "_law_turns"] ["_law_bag_here", "_law_way", "_law_head", "_law_some", "_law_two"] 5 6 (kpl [true, true, true, true, true]) (b__law_node call) (g__law_node call) rfl rfl rfl F SC fun cdv A outer s H E hr =>
  (dss_cons (ds_if (dt_cmp od_lt (de_n (pv 1)) de_int (nomark _))
    (dss_one (ds_ret (dm_tup (da_cons de_str (da_cons (de_m (dm_ix (de_n (pv 2)) de_int)) (da_cons (de_m (dm_bty cd_tuple (by rfl) G.n_tuple (by decide +kernel) (da_cons (de_n (pv 3)) da_nil))) da_nil))))))
    dss_nil)
  (dss_cons (ds_if (dt_cmp od_lt (de_n (pv 1)) de_int (nomark _))
    (dss_one (ds_ret (dm_tup (da_cons de_str (da_cons (de_m (dm_ix de_str (de_m (dm_call C.c__law_take hr (by rfl) (da_cons (de_n (pv 0)) (da_cons de_int da_nil)) (many_cons (many_cons many_nil)))))) (da_cons (de_m (dm_ix (de_n (pv 3)) de_int)) (da_cons (de_m (dm_ix (de_n (pv 3)) de_int)) da_nil)))))))
    dss_nil)
  (dss_cons (ds_if (dt_cmp (od_eq (Ev.hu192 hr)) (de_n (pv 1)) de_int (nomark _))
    (dss_one (ds_ret (dm_tup (da_cons de_str (da_cons (de_m (dm_bty cd_tuple (by rfl) G.n_tuple (by decide +kernel) (da_cons (de_n (pv 3)) da_nil))) da_nil)))))
    dss_nil)
  (dss_cons (ds_if (dt_cmp (od_eq (Ev.hu192 hr)) (de_n (pv 1)) de_int (nomark _))
    (dss_one (ds_ret (dm_ix (de_m (dm_lst (da_cons (de_m (dm_tup (da_cons de_str (da_cons (de_m (dm_ix (de_n (pv 3)) de_int)) da_nil)))) (da_cons (de_m (dm_tup (da_cons de_str (da_cons (de_m (dm_bin od_add de_int (de_m (dm_call C.c__law_take hr (by rfl) (da_cons (de_n (pv 0)) (da_cons de_int da_nil)) (many_cons (many_cons many_nil)))))) (da_cons (de_m (dm_ix (de_n (pv 3)) de_int)) da_nil))))) da_nil)))) (de_m (dm_call C.c__law_take hr (by rfl) (da_cons (de_n (pv 0)) (da_cons de_int da_nil)) (many_cons (many_cons many_nil)))))))
    dss_nil)
  (dss_cons (ds_if (dt_w (dw_and (dt_cmp (od_eq (Ev.hu192 hr)) (de_n (pv 1)) de_int (nomark _)) (dw_and1 (dt_cmp (od_eq (Ev.hu192 hr)) (de_m (dm_ix (de_m (dm_ix (de_n (pv 3)) de_int)) de_int)) de_str (nomark _)))))
    (dss_one (ds_ret (dm_tup (da_cons de_str (da_cons (de_m (dm_tup (da_cons de_str (da_cons (de_m (dm_cmp (od_eq (Ev.hu192 hr)) (de_m (dm_bin od_mod (de_m (dm_ix (de_m (dm_ix (de_n (pv 3)) de_int)) de_int)) de_int)) de_int (nomark _))) da_nil)))) (da_cons (de_m (dm_ix (de_n (pv 3)) de_int)) (da_cons (de_m (dm_ix (de_n (pv 3)) de_int)) da_nil)))))))
    dss_nil)
  (dss_cons (ds_if (dt_cmp (od_eq (Ev.hu192 hr)) (de_n (pv 1)) de_int (nomark _))
    (dss_one (ds_ret (dm_tup (da_cons de_str (da_cons (de_m (dm_ix (de_n (pv 3)) de_int)) (da_cons (de_m (dm_ix (de_n (pv 3)) de_int)) (da_cons (de_m (dm_ix (de_n (pv 3)) de_int)) da_nil)))))))
    dss_nil)
  (dss_cons (ds_if (dt_cmp od_lt (de_n (pv 1)) de_int (nomark _))
    (dss_one (ds_ret (dm_tup (da_cons de_str (da_cons (de_m (dm_ix (de_n (pv 4)) de_int)) (da_cons (de_m (dm_ix (de_n (pv 3)) de_int)) (da_cons (de_m (dm_ix (de_n (pv 3)) de_int)) da_nil)))))))
    dss_nil)
  (dss_cons (ds_if (dt_cmp (od_eq (Ev.hu192 hr)) (de_n (pv 1)) de_int (nomark _))
    (dss_cons (ds_set (i := 5) SC.nd rfl (by first | exact .inl rfl | exact .inr rfl) rfl (dm_ix (de_m (dm_lst (da_cons (de_m (dm_ix (de_n (pv 3)) de_int)) (da_cons (de_m (dm_tup (da_cons de_str (da_cons (de_m (dm_call C.c__law_take hr (by rfl) (da_cons (de_n (pv 0)) (da_cons de_int da_nil)) (many_cons (many_cons many_nil)))) da_nil)))) da_nil)))) (de_m (dm_call C.c__law_take hr (by rfl) (da_cons (de_n (pv 0)) (da_cons de_int da_nil)) (many_cons (many_cons many_nil))))))
  (dss_one (ds_ret (dm_tup (da_cons de_str (da_cons (de_m (dm_ix (de_n (pv 4)) de_int)) (da_cons (de_m (dm_ix (de_n (pv 3)) de_int)) (da_cons (de_m (dm_ix (de_n (pv 4)) de_int)) (da_cons (de_n (pv 5)) (da_cons (de_m (dm_ix (de_n (pv 3)) de_int)) da_nil))))))))))
    dss_nil)
  (dss_cons (ds_if (dt_w (dw_and (dt_cmp (od_eq (Ev.hu192 hr)) (de_n (pv 1)) de_int (nomark _)) (dw_and1 (dt_cmp (od_eq (Ev.hu192 hr)) (de_n (pv 3)) (de_m (dm_lst da_nil)) (nomark _)))))
    (dss_one (ds_ret (dm_tup (da_cons de_str (da_cons (de_m (dm_ix (de_n (pv 4)) de_int)) da_nil)))))
    dss_nil)
  (dss_cons (ds_if (dt_cmp (od_eq (Ev.hu192 hr)) (de_n (pv 1)) de_int (nomark _))
    (dss_one (ds_ret (dm_tup (da_cons de_str (da_cons (de_m (dm_ix (de_n (pv 3)) de_int)) (da_cons (de_m (dm_ix (de_m (dm_lst (da_cons (de_m (dm_ix (de_n (pv 4)) de_int)) (da_cons de_str (da_cons de_str (da_cons de_str da_nil)))))) (de_m (dm_call C.c__law_take hr (by rfl) (da_cons (de_n (pv 0)) (da_cons de_int da_nil)) (many_cons (many_cons many_nil)))))) (da_cons (de_m (dm_ix (de_n (pv 3)) de_int)) da_nil)))))))
    dss_nil)
  (dss_one (ds_ret (dm_tup (da_cons de_str (da_cons (de_m (dm_ix (de_m (dm_lst (da_cons (de_m (dm_call C.c__law_take hr (by rfl) (da_cons (de_n (pv 0)) (da_cons de_int da_nil)) (many_cons (many_cons many_nil)))) (da_cons (de_m (dm_bin od_pow de_int de_int)) da_nil)))) (de_m (dm_bty cd_int (by rfl) G.n_int (by decide +kernel) (da_cons (de_m (dm_cmp (od_eq (Ev.hu192 hr)) (de_m (dm_call C.c__law_take hr (by rfl) (da_cons (de_n (pv 0)) (da_cons de_int da_nil)) (many_cons (many_cons many_nil)))) de_int (nomark _))) da_nil))))) (da_cons (de_m (dm_ix (de_n (pv 3)) de_int)) da_nil))))))))))))))))
theorem ok__law_any (F : Fun K "_law_any" "_law_any" s__law_any f fd) (G : Gs w K mg) (C : Cs P w K mg base n call) : FnG P w K mg base (n + 1) f fd ["_law_bag_here", "_law_words_here", "_law_room", "_law_deep"] (spD K 4 (g__law_any call)) :=
  have SC := sc__law_any
  fn_ok ["_law_bag_here", "_law_words_here", "_law_room", "_law_deep", "_law_way", "_law_at", "_law_two", "_law_size", "_law_many", "_law_share", "_law_some", "_law_pairs", "_law_k"] ["_law_bag_here", "_law_words_here", "_law_room", "_law_deep"] 4 13 (kpl [true, true, true, true]) (b__law_any call) (g__law_any call) rfl rfl rfl F SC fun cdv A outer s H E hr =>
  (dss_cons (ds_set (i := 4) SC.nd rfl (by first | exact .inl rfl | exact .inr rfl) rfl (dm_call C.c__law_take hr (by rfl) (da_cons (de_n (pv 0)) (da_cons de_int da_nil)) (many_cons (many_cons many_nil))))
  (dss_cons (ds_set (i := 5) SC.nd rfl (by first | exact .inl rfl | exact .inr rfl) rfl (dm_call C.c__law_take hr (by rfl) (da_cons (de_n (pv 0)) (da_cons (de_m (dm_blt cd_len (by rfl) G.n_len (by decide +kernel) (da_cons (de_n (pv 1)) da_nil))) da_nil)) (many_cons (many_cons many_nil))))
  (dss_cons (ds_set (i := 6) SC.nd rfl (by first | exact .inl rfl | exact .inr rfl) rfl (dm_tup (da_cons (de_m (dm_ix (de_n (pv 1)) (de_n (pv 5)))) (da_cons (de_m (dm_ix (de_n (pv 1)) (de_m (dm_bin od_mod (de_m (dm_bin od_add (de_n (pv 5)) de_int)) (de_m (dm_blt cd_len (by rfl) G.n_len (by decide +kernel) (da_cons (de_n (pv 1)) da_nil))))))) da_nil))))
  (dss_cons (ds_set (i := 7) SC.nd rfl (by first | exact .inl rfl | exact .inr rfl) rfl (dm_call C.c__law_take hr (by rfl) (da_cons (de_n (pv 0)) (da_cons de_int da_nil)) (many_cons (many_cons many_nil))))
  (dss_cons (ds_set (i := 8) SC.nd rfl (by first | exact .inl rfl | exact .inr rfl) rfl (dm_ix (de_m (dm_bin od_add (de_m (dm_bin od_add (de_m (dm_bin od_mul (de_m (dm_lst (da_cons (de_n (pv 7)) da_nil))) de_int)) (de_m (dm_lst (da_cons de_int (da_cons de_int (da_cons de_int (da_cons (de_n (pv 7)) (da_cons de_int (da_cons de_int (da_cons de_int (da_cons de_int (da_cons de_int (da_cons (de_m (dm_bin od_mul de_int (de_m (dm_bin od_mod (de_n (pv 7)) de_int)))) (da_cons de_int da_nil))))))))))))))) (de_m (dm_bin od_mul (de_m (dm_lst (da_cons (de_m (dm_bin od_add de_int (de_n (pv 7)))) da_nil))) de_int)))) (de_n (pv 4))))
  (dss_cons (ds_if (dt_w (dw_or (dt_cmp od_lt (de_n (pv 2)) (de_m (dm_bin od_add de_int (de_n (pv 8)))) (nomark _)) (dw_or1 (dt_cmp od_lt (de_n (pv 3)) de_int (nomark _)))))
    (dss_one (ds_ret (dm_call C.c__law_plain hr (by rfl) (da_cons (de_n (pv 0)) (da_cons (de_n (pv 1)) da_nil)) (many_cons (many_cons many_nil)))))
    dss_nil)
  (dss_cons (ds_set (i := 9) SC.nd rfl (by first | exact .inl rfl | exact .inr rfl) rfl (dm_bin od_fdiv (de_m (dm_bin od_sub (de_n (pv 2)) de_int)) (de_m (dm_blt (cd_max rfl) (by rfl) G.n_max (by decide +kernel) (da_cons de_int (da_cons (de_n (pv 8)) da_nil))))))
  (dss_cons (ds_set (i := 10) SC.nd rfl (by first | exact .inl rfl | exact .inr rfl) rfl (dm_lc (own := [("_law_k", 12)]) rfl SC.nd (di_any (di_rng1 (by rfl) G.n_range (de_n (pv 8)))) (blkOk_by (own := [("_law_k", 12)]) (N := ["_law_bag_here", "_law_words_here", "_law_room", "_law_deep", "_law_way", "_law_at", "_law_two", "_law_size", "_law_many", "_law_share", "_law_some", "_law_pairs", "_law_k"]) (sc := defScope s__law_any) (by decide +kernel)) (fun _ _ _ _ _ => (dg_n rfl (pg_name (i := 12) SC.nd rfl (by first | exact .inl rfl | exact .inr rfl)))) (fun _ _ _ _ _ => dts_nil) (fun _ _ _ _ _ => (de_m (dm_call C.c__law_any hr (by rfl) (da_cons (de_n (pv 0)) (da_cons (de_n (pv 1)) (da_cons (de_n (pv 9)) (da_cons (de_m (dm_bin od_sub (de_n (pv 3)) de_int)) da_nil)))) (many_cons (many_cons (many_cons (many_cons many_nil)))))))))
  (dss_cons (ds_if (dt_cmp od_lt (de_n (pv 4)) de_int (nomark _))
    (dss_one (ds_ret (dm_call C.c__law_node hr (by rfl) (da_cons (de_n (pv 0)) (da_cons (de_n (pv 4)) (da_cons (de_n (pv 6)) (da_cons (de_n (pv 10)) (da_cons (de_n (pv 6)) da_nil))))) (many_cons (many_cons (many_cons (many_cons (many_cons many_nil))))))))
    dss_nil)
  (dss_cons (ds_setLc (i := 11) (own := [("_law_k", 12)]) rfl SC.nd rfl rfl rfl (sw_true rfl rfl rfl (by decide +kernel)) (di_any (di_rng1 (by rfl) G.n_range (de_n (pv 7)))) (blkOk_by (own := [("_law_k", 12)]) (N := ["_law_bag_here", "_law_words_here", "_law_room", "_law_deep", "_law_way", "_law_at", "_law_two", "_law_size", "_law_many", "_law_share", "_law_some", "_law_pairs", "_law_k"]) (sc := defScope s__law_any) (by decide +kernel)) (fun _ _ _ _ _ => (dg_n rfl (pg_name (i := 12) SC.nd rfl (by first | exact .inl rfl | exact .inr rfl)))) (fun _ _ _ _ _ => dts_nil) (fun _ _ _ _ _ => (de_m (dm_tup (da_cons (de_m (dm_ix (de_n (pv 1)) (de_m (dm_bin od_mod (de_m (dm_bin od_add (de_n (pv 5)) (de_n (pv 12)))) (de_m (dm_blt cd_len (by rfl) G.n_len (by decide +kernel) (da_cons (de_n (pv 1)) da_nil))))))) (da_cons (de_m (dm_ix (de_n (pv 10)) (de_n (pv 12)))) da_nil))))))
  (dss_one (ds_ret (dm_tup (da_cons de_str (da_cons (de_m (dm_ix (de_n (pv 6)) de_int)) (da_cons (de_m (dm_bty cd_tuple (by rfl) G.n_tuple (by decide +kernel) (da_cons (de_n (pv 11)) da_nil))) (da_cons (de_m (dm_ix (de_n (pv 10)) (de_m (dm_neg de_int)))) da_nil)))))))))))))))))
theorem ok__law_parts (F : Fun K "_law_parts" "_law_parts" s__law_parts f fd) (G : Gs w K mg) (C : Cs P w K mg base n call) : FnG P w K mg base (n + 1) f fd ["_law_tree"] (spD K 1 (g__law_parts call)) :=
  have SC := sc__law_parts
  fn_ok ["_law_tree", "_law_word", "_law_pair"] ["_law_tree"] 1 3 (kpl [true]) (b__law_parts call) (g__law_parts call) rfl rfl rfl F SC fun cdv A outer s H E hr =>
  (dss_cons (ds_set (i := 1) SC.nd rfl (by first | exact .inl rfl | exact .inr rfl) rfl (dm_ix (de_n (pv 0)) de_int))
  (dss_cons (ds_if (dt_cmp (od_in (Ev.hu192 hr)) (de_n (pv 1)) (de_m (dm_tup (da_cons de_str (da_cons de_str (da_cons de_str (da_cons de_str da_nil)))))) (by with_unfolding_all rfl))
    (dss_one (ds_ret (dm_lst da_nil)))
    dss_nil)
  (dss_cons (ds_if (dt_cmp (od_in (Ev.hu192 hr)) (de_n (pv 1)) (de_m (dm_tup (da_cons de_str (da_cons de_str da_nil)))) (by with_unfolding_all rfl))
    (dss_one (ds_ret (dm_lst (da_cons (de_m (dm_ix (de_n (pv 0)) de_int)) (da_cons (de_m (dm_ix (de_n (pv 0)) de_int)) da_nil)))))
    dss_nil)
  (dss_cons (ds_if (dt_cmp (od_in (Ev.hu192 hr)) (de_n (pv 1)) (de_m (dm_tup (da_cons de_str (da_cons de_str da_nil)))) (by with_unfolding_all rfl))
    (dss_one (ds_ret (dm_lst (da_cons (de_m (dm_ix (de_n (pv 0)) de_int)) da_nil))))
    dss_nil)
  (dss_cons (ds_if (dt_cmp (od_in (Ev.hu192 hr)) (de_n (pv 1)) (de_m (dm_tup (da_cons de_str (da_cons de_str da_nil)))) (by with_unfolding_all rfl))
    (dss_one (ds_ret (dm_bty cd_list (by rfl) G.n_list (by decide +kernel) (da_cons (de_m (dm_sl (de_n (pv 0)) (dp_ix de_int) dp_no)) da_nil))))
    dss_nil)
  (dss_cons (ds_if (dt_cmp (od_eq (Ev.hu192 hr)) (de_n (pv 1)) de_str (nomark _))
    (dss_one (ds_ret (dm_bty cd_list (by rfl) G.n_list (by decide +kernel) (da_cons (de_m (dm_ix (de_n (pv 0)) de_int)) da_nil))))
    dss_nil)
  (dss_cons (ds_if (dt_cmp (od_eq (Ev.hu192 hr)) (de_n (pv 1)) de_str (nomark _))
    (dss_one (ds_ret (dm_lst (da_cons (de_m (dm_ix (de_n (pv 0)) de_int)) (da_cons (de_m (dm_ix (de_n (pv 0)) de_int)) (da_cons (de_m (dm_ix (de_n (pv 0)) de_int)) da_nil))))))
    dss_nil)
  (dss_cons (ds_if (dt_cmp (od_eq (Ev.hu192 hr)) (de_n (pv 1)) de_str (nomark _))
    (dss_one (ds_ret (dm_lst (da_cons (de_m (dm_ix (de_n (pv 0)) de_int)) (da_cons (de_m (dm_ix (de_n (pv 0)) de_int)) da_nil)))))
    dss_nil)
  (dss_cons (ds_if (dt_cmp (od_eq (Ev.hu192 hr)) (de_n (pv 1)) de_str (nomark _))
    (dss_one (ds_ret (dm_bty cd_list (by rfl) G.n_list (by decide +kernel) (da_cons (de_m (dm_ix (de_n (pv 0)) de_int)) da_nil))))
    dss_nil)
  (dss_one (ds_ret (dm_bin od_add (de_m (dm_lc (own := [("_law_pair", 2)]) rfl SC.nd (di_any (di_seq (de_m (dm_ix (de_n (pv 0)) de_int)))) (blkOk_by (own := [("_law_pair", 2)]) (N := ["_law_tree", "_law_word", "_law_pair"]) (sc := defScope s__law_parts) (by decide +kernel)) (fun _ _ _ _ _ => (dg_n rfl (pg_name (i := 2) SC.nd rfl (by first | exact .inl rfl | exact .inr rfl)))) (fun _ _ _ _ _ => dts_nil) (fun _ _ _ _ _ => (de_m (dm_ix (de_n (pv 2)) de_int))))) (de_m (dm_lst (da_cons (de_m (dm_ix (de_n (pv 0)) de_int)) da_nil)))))))))))))))
theorem ok__law_thawed (F : Fun K "_law_thawed" "_law_thawed" s__law_thawed f fd) (G : Gs w K mg) (C : Cs P w K mg base n call) : FnG P w K mg base (n + 1) f fd ["_law_tree"] (spD K 1 (g__law_thawed call)) :=
  have SC := sc__law_thawed
  fn_ok ["_law_tree", "_law_word", "_law_some", "_law_part"] ["_law_tree"] 1 4 (kpl [true]) (b__law_thawed call) (g__law_thawed call) rfl rfl rfl F SC fun cdv A outer s H E hr =>
  (dss_cons (ds_set (i := 1) SC.nd rfl (by first | exact .inl rfl | exact .inr rfl) rfl (dm_ix (de_n (pv 0)) de_int))
  (dss_cons (ds_if (dt_cmp (od_in (Ev.hu192 hr)) (de_n (pv 1)) (de_m (dm_tup (da_cons de_str (da_cons de_str (da_cons de_str (da_cons de_str da_nil)))))) (by with_unfolding_all rfl))
    (dss_one (ds_retV (pv 0)))
    dss_nil)
  (dss_cons (ds_setLc (i := 2) (own := [("_law_part", 3)]) rfl SC.nd rfl rfl rfl (sw_true rfl rfl rfl (by decide +kernel)) (di_any (di_seq (de_m (dm_call C.c__law_parts hr (by rfl) (da_cons (de_n (pv 0)) da_nil) (many_cons many_nil))))) (blkOk_by (own := [("_law_part", 3)]) (N := ["_law_tree", "_law_word", "_law_some", "_law_part"]) (sc := defScope s__law_thawed) (by decide +kernel)) (fun _ _ _ _ _ => (dg_n rfl (pg_name (i := 3) SC.nd rfl (by first | exact .inl rfl | exact .inr rfl)))) (fun _ _ _ _ _ => dts_nil) (fun _ _ _ _ _ => (de_m (dm_call C.c__law_thawed hr (by rfl) (da_cons (de_n (pv 3)) da_nil) (many_cons many_nil)))))
  (dss_cons (ds_if (dt_cmp (od_in (Ev.hu192 hr)) (de_n (pv 1)) (de_m (dm_tup (da_cons de_str (da_cons de_str (da_cons de_str (da_cons de_str da_nil)))))) (by with_unfolding_all rfl))
    (dss_one (ds_ret (dm_bin od_add (de_m (dm_sl (de_n (pv 0)) dp_no (dp_ix de_int))) (de_m (dm_bty cd_tuple (by rfl) G.n_tuple (by decide +kernel) (da_cons (de_n (pv 2)) da_nil))))))
    dss_nil)
  (dss_cons (ds_if (dt_cmp (od_in (Ev.hu192 hr)) (de_n (pv 1)) (de_m (dm_tup (da_cons de_str (da_cons de_str da_nil)))) (by with_unfolding_all rfl))
    (dss_one (ds_ret (dm_bin od_add (de_m (dm_tup (da_cons (de_n (pv 1)) da_nil))) (de_m (dm_bty cd_tuple (by rfl) G.n_tuple (by decide +kernel) (da_cons (de_n (pv 2)) da_nil))))))
    dss_nil)
  (dss_cons (ds_if (dt_cmp (od_eq (Ev.hu192 hr)) (de_n (pv 1)) de_str (nomark _))
    (dss_one (ds_ret (dm_tup (da_cons de_str (da_cons (de_m (dm_bty cd_tuple (by rfl) G.n_tuple (by decide +kernel) (da_cons (de_n (pv 2)) da_nil))) da_nil)))))
    dss_nil)
  (dss_cons (ds_if (dt_cmp (od_eq (Ev.hu192 hr)) (de_n (pv 1)) de_str (nomark _))
    (dss_one (ds_ret (dm_tup (da_cons de_str (da_cons (de_m (dm_ix (de_n (pv 0)) de_int)) (da_cons (de_m (dm_ix (de_n (pv 2)) de_int)) (da_cons (de_m (dm_ix (de_n (pv 0)) de_int)) (da_cons (de_m (dm_ix (de_n (pv 2)) de_int)) (da_cons (de_m (dm_ix (de_n (pv 2)) de_int)) da_nil)))))))))
    dss_nil)
  (dss_cons (ds_if (dt_cmp (od_eq (Ev.hu192 hr)) (de_n (pv 1)) de_str (nomark _))
    (dss_one (ds_ret (dm_tup (da_cons de_str (da_cons (de_m (dm_ix (de_n (pv 2)) de_int)) (da_cons (de_m (dm_ix (de_n (pv 0)) de_int)) (da_cons (de_m (dm_ix (de_n (pv 2)) de_int)) da_nil)))))))
    dss_nil)
  (dss_cons (ds_if (dt_cmp (od_eq (Ev.hu192 hr)) (de_n (pv 1)) de_str (nomark _))
    (dss_one (ds_set (i := 2) SC.nd rfl (by first | exact .inl rfl | exact .inr rfl) rfl (dm_sl (de_n (pv 2)) dp_no (dp_ix (de_m (dm_neg de_int))))))
    dss_nil)
  (dss_one (ds_ret (dm_tup (da_cons de_str (da_cons (de_m (dm_ix (de_n (pv 0)) de_int)) (da_cons (de_m (dm_bty cd_tuple (by rfl) G.n_tuple (by decide +kernel) (da_cons (de_n (pv 2)) da_nil))) da_nil)))))))))))))))
theorem ok__law_melted (F : Fun K "_law_melted" "_law_melted" s__law_melted f fd) (G : Gs w K mg) (C : Cs P w K mg base n call) : FnG P w K mg base (n + 1) f fd ["_law_bag_here", "_law_tree", "_law_words_here"] (spD K 3 (g__law_melted call)) :=
  have SC := sc__law_melted
  fn_ok ["_law_bag_here", "_law_tree", "_law_words_here", "_law_row", "_law_one", "_law_k", "_law_part"] ["_law_bag_here", "_law_tree", "_law_words_here"] 3 7 (kpl [true, true, true]) (b__law_melted call) (g__law_melted call) rfl rfl rfl F SC fun cdv A outer s H E hr =>
  (dss_cons (ds_if (dt_w (dw_and (dt_cmp (od_eq (Ev.hu192 hr)) (de_m (dm_ix (de_n (pv 1)) de_int)) de_str (nomark _)) (dw_and1 (dt_cmp (od_eq (Ev.hu192 hr)) (de_m (dm_call C.c__law_take hr (by rfl) (da_cons (de_n (pv 0)) (da_cons de_int da_nil)) (many_cons (many_cons many_nil)))) de_int (nomark _)))))
    (dss_cons (ds_setLc (i := 3) (own := [("_law_k", 5)]) rfl SC.nd rfl rfl rfl (sw_true rfl rfl rfl (by decide +kernel)) (di_any (di_rng1 (by rfl) G.n_range (de_m (dm_blt cd_len (by rfl) G.n_len (by decide +kernel) (da_cons (de_m (dm_ix (de_n (pv 1)) de_int)) da_nil))))) (blkOk_by (own := [("_law_k", 5)]) (N := ["_law_bag_here", "_law_tree", "_law_words_here", "_law_row", "_law_one", "_law_k", "_law_part"]) (sc := defScope s__law_melted) (by decide +kernel)) (fun _ _ _ _ _ => (dg_n rfl (pg_name (i := 5) SC.nd rfl (by first | exact .inl rfl | exact .inr rfl)))) (fun _ _ _ _ _ => dts_nil) (fun _ _ _ _ _ => (de_m (dm_tup (da_cons (de_m (dm_ix (de_n (pv 2)) (de_n (pv 5)))) (da_cons (de_m (dm_call C.c__law_melted hr (by rfl) (da_cons (de_n (pv 0)) (da_cons (de_m (dm_ix (de_m (dm_ix (de_n (pv 1)) de_int)) (de_n (pv 5)))) (da_cons (de_n (pv 2)) da_nil))) (many_cons (many_cons (many_cons many_nil))))) da_nil))))))
  (dss_one (ds_ret (dm_tup (da_cons de_str (da_cons (de_m (dm_ix (de_n (pv 1)) de_int)) (da_cons (de_m (dm_bty cd_tuple (by rfl) G.n_tuple (by decide +kernel) (da_cons (de_n (pv 3)) da_nil))) (da_cons (de_m (dm_call C.c__law_any hr (by rfl) (da_cons (de_n (pv 0)) (da_cons (de_n (pv 2)) (da_cons de_int (da_cons de_int da_nil)))) (many_cons (many_cons (many_cons (many_cons many_nil)))))) da_nil))))))))
    dss_nil)
  (dss_cons (ds_if (dt_cmp (od_eq (Ev.hu192 hr)) (de_m (dm_ix (de_n (pv 1)) de_int)) de_str (nomark _))
    (dss_one (ds_ret (dm_tup (da_cons de_str (da_cons (de_m (dm_ix (de_n (pv 1)) de_int)) (da_cons (de_m (dm_bty cd_tuple (by rfl) G.n_tuple (by decide +kernel) (da_cons (de_m (dm_lc (own := [("_law_part", 6)]) rfl SC.nd (di_any (di_seq (de_m (dm_ix (de_n (pv 1)) de_int)))) (blkOk_by (own := [("_law_part", 6)]) (N := ["_law_bag_here", "_law_tree", "_law_words_here", "_law_row", "_law_one", "_law_k", "_law_part"]) (sc := defScope s__law_melted) (by decide +kernel)) (fun _ _ _ _ _ => (dg_n rfl (pg_name (i := 6) SC.nd rfl (by first | exact .inl rfl | exact .inr rfl)))) (fun _ _ _ _ _ => dts_nil) (fun _ _ _ _ _ => (de_m (dm_call C.c__law_melted hr (by rfl) (da_cons (de_n (pv 0)) (da_cons (de_n (pv 6)) (da_cons (de_n (pv 2)) da_nil))) (many_cons (many_cons (many_cons many_nil)))))))) da_nil))) da_nil))))))
    dss_nil)
  (dss_cons (ds_if (dt_cmp (od_in (Ev.hu192 hr)) (de_m (dm_ix (de_n (pv 1)) de_int)) (de_m (dm_tup (da_cons de_str (da_cons de_str da_nil)))) (by with_unfolding_all rfl))
    (dss_cons (ds_set (i := 4) SC.nd rfl (by first | exact .inl rfl | exact .inr rfl) rfl (dm_call C.c__law_melted hr (by rfl) (da_cons (de_n (pv 0)) (da_cons (de_m (dm_ix (de_n (pv 1)) de_int)) (da_cons (de_n (pv 2)) da_nil))) (many_cons (many_cons (many_cons many_nil)))))
  (dss_one (ds_ret (dm_bin od_add (de_m (dm_sl (de_n (pv 1)) dp_no (dp_ix de_int))) (de_m (dm_tup (da_cons (de_n (pv 4)) (da_cons (de_m (dm_call C.c__law_melted hr (by rfl) (da_cons (de_n (pv 0)) (da_cons (de_m (dm_ix (de_n (pv 1)) de_int)) (da_cons (de_n (pv 2)) da_nil))) (many_cons (many_cons (many_cons many_nil))))) da_nil))))))))
    dss_nil)
  (dss_cons (ds_if (dt_cmp (od_eq (Ev.hu192 hr)) (de_m (dm_ix (de_n (pv 1)) de_int)) de_str (nomark _))
    (dss_one (ds_ret (dm_tup (da_cons de_str (da_cons (de_m (dm_bty cd_tuple (by rfl) G.n_tuple (by decide +kernel) (da_cons (de_m (dm_lc (own := [("_law_part", 6)]) rfl SC.nd (di_any (di_seq (de_m (dm_ix (de_n (pv 1)) de_int)))) (blkOk_by (own := [("_law_part", 6)]) (N := ["_law_bag_here", "_law_tree", "_law_words_here", "_law_row", "_law_one", "_law_k", "_law_part"]) (sc := defScope s__law_melted) (by decide +kernel)) (fun _ _ _ _ _ => (dg_n rfl (pg_name (i := 6) SC.nd rfl (by first | exact .inl rfl | exact .inr rfl)))) (fun _ _ _ _ _ => dts_nil) (fun _ _ _ _ _ => (de_m (dm_call C.c__law_melted hr (by rfl) (da_cons (de_n (pv 0)) (da_cons (de_n (pv 6)) (da_cons (de_n (pv 2)) da_nil))) (many_cons (many_cons (many_cons many_nil)))))))) da_nil))) da_nil)))))
    dss_nil)
  (dss_one (ds_retV (pv 1)))))))
theorem ok_law (F : Fun K "law" "law" s_law f fd) (G : Gs w K mg) (C : Cs P w K mg base n call) : FnG P w K mg base (n + 1) f fd ["_law_script"] (spD K 1 (g_law call)) :=
  have SC := sc_law
  fn_ok ["_law_script", "_law_bag_here", "_law_words_here", "_law_some", "_law_tree", "_law_due", "_law_kept", "_law_found", "_law_again", "_law_k"] ["_law_script"] 1 10 (kpl [true]) (b_law call) (g_law call) rfl rfl rfl F SC fun cdv A outer s H E hr =>
  (dss_cons (ds_set (i := 1) SC.nd rfl (by first | exact .inl rfl | exact .inr rfl) rfl (dm_call C.c__law_bag hr (by rfl) (da_cons (de_n (pv 0)) da_nil) (many_cons many_nil)))
  (dss_cons (ds_set (i := 2) SC.nd rfl (by first | exact .inl rfl | exact .inr rfl) rfl (dm_call C.c__law_words hr (by rfl) (da_cons (de_n (pv 1)) (da_cons de_int da_nil)) (many_cons (many_cons many_nil))))
  (dss_cons (ds_setLc (i := 3) (own := [("_law_k", 9)]) rfl SC.nd rfl rfl rfl (sw_true rfl rfl rfl (by decide +kernel)) (di_any (di_rng1 (by rfl) G.n_range de_int)) (blkOk_by (own := [("_law_k", 9)]) (N := ["_law_script", "_law_bag_here", "_law_words_here", "_law_some", "_law_tree", "_law_due", "_law_kept", "_law_found", "_law_again", "_law_k"]) (sc := defScope s_law) (by decide +kernel)) (fun _ _ _ _ _ => (dg_n rfl (pg_name (i := 9) SC.nd rfl (by first | exact .inl rfl | exact .inr rfl)))) (fun _ _ _ _ _ => dts_nil) (fun _ _ _ _ _ => (de_m (dm_call C.c__law_any hr (by rfl) (da_cons (de_n (pv 1)) (da_cons (de_n (pv 2)) (da_cons (de_m (dm_ix (de_m (dm_lst (da_cons de_int (da_cons de_int (da_cons de_int da_nil))))) (de_m (dm_call C.c__law_take hr (by rfl) (da_cons (de_n (pv 1)) (da_cons de_int da_nil)) (many_cons (many_cons many_nil)))))) (da_cons (de_m (dm_bin od_add de_int (de_m (dm_call C.c__law_take hr (by rfl) (da_cons (de_n (pv 1)) (da_cons de_int da_nil)) (many_cons (many_cons many_nil)))))) da_nil)))) (many_cons (many_cons (many_cons (many_cons many_nil))))))))
  (dss_cons (ds_expr (dm_app (pv 3) (de_m (dm_tup (da_cons de_str (da_cons (de_m (dm_ix (de_n (pv 2)) de_int)) (da_cons (de_m (dm_tup (da_cons (de_m (dm_tup (da_cons (de_m (dm_ix (de_n (pv 2)) de_int)) (da_cons (de_m (dm_ix (de_n (pv 3)) de_int)) da_nil)))) (da_cons (de_m (dm_tup (da_cons (de_m (dm_ix (de_n (pv 2)) de_int)) (da_cons (de_m (dm_ix (de_n (pv 3)) de_int)) da_nil)))) (da_cons (de_m (dm_tup (da_cons (de_m (dm_ix (de_n (pv 2)) de_int)) (da_cons (de_m (dm_tup (da_cons de_str (da_cons de_int da_nil)))) da_nil)))) da_nil))))) (da_cons (de_m (dm_ix (de_n (pv 3)) de_int)) da_nil))))))))
  (dss_cons (ds_expr (dm_app (pv 3) (de_m (dm_ix (de_m (dm_lst (da_cons (de_m (dm_tup (da_cons de_str (da_cons de_int da_nil)))) (da_cons (de_m (dm_tup (da_cons de_str (da_cons de_bl da_nil)))) (da_cons (de_m (dm_tup (da_cons de_str (da_cons (de_m (dm_ix (de_n (pv 2)) de_int)) da_nil)))) da_nil))))) (de_m (dm_call C.c__law_take hr (by rfl) (da_cons (de_n (pv 1)) (da_cons de_int da_nil)) (many_cons (many_cons many_nil))))))))
  (dss_cons (ds_for PassesOwn.never rfl (di_any (di_seq (de_m (dm_bin od_add (de_n (pv 3)) (de_m (dm_sl (de_n (pv 3)) dp_no (dp_ix de_int))))))) (dg_n rfl (pg_name (i := 4) SC.nd rfl (by first | exact .inl rfl | exact .inr rfl)))
    (dss_cons (ds_set (i := 5) SC.nd rfl (by first | exact .inl rfl | exact .inr rfl) rfl (dm_call C.c__law_thawed hr (by rfl) (da_cons (de_n (pv 4)) da_nil) (many_cons many_nil)))
  (dss_cons (ds_set (i := 6) SC.nd rfl (by first | exact .inl rfl | exact .inr rfl) rfl (dm_blt (cd_repr hr) (by rfl) G.n_repr (by decide +kernel) (da_cons (de_n (pv 4)) da_nil)))
  (dss_cons (ds_set (i := 7) SC.nd rfl (by first | exact .inl rfl | exact .inr rfl) rfl (dm_call C.c_thawed hr (by rfl) (da_cons (de_n (pv 4)) da_nil) (many_cons many_nil)))
  (dss_cons (ds_if (dt_w (dw_or (dt_cmp (od_ne (Ev.hu192 hr)) (de_m (dm_blt (cd_repr hr) (by rfl) G.n_repr (by decide +kernel) (da_cons (de_n (pv 7)) da_nil))) (de_m (dm_blt (cd_repr hr) (by rfl) G.n_repr (by decide +kernel) (da_cons (de_n (pv 5)) da_nil))) (nomark _)) (dw_or (dt_cmp (od_ne (Ev.hu192 hr)) (de_m (dm_blt (cd_repr hr) (by rfl) G.n_repr (by decide +kernel) (da_cons (de_n (pv 4)) da_nil))) (de_n (pv 6)) (nomark _)) (dw_or1 (dt_not (dt_val (dm_call C.c_is_tree hr (by rfl) (da_cons (de_n (pv 7)) da_nil) (many_cons many_nil))))))))
    (dss_one (ds_ret (dm_e de_bl)))
    dss_nil)
  (dss_cons (ds_if (dt_cmp (od_ne (Ev.hu192 hr)) (de_m (dm_blt (cd_repr hr) (by rfl) G.n_repr (by decide +kernel) (da_cons (de_m (dm_call C.c_thawed hr (by rfl) (da_cons (de_n (pv 7)) da_nil) (many_cons many_nil))) da_nil))) (de_m (dm_blt (cd_repr hr) (by rfl) G.n_repr (by decide +kernel) (da_cons (de_n (pv 5)) da_nil))) (nomark _))
    (dss_one (ds_ret (dm_e de_bl)))
    dss_nil)
  (dss_cons (ds_set (i := 8) SC.nd rfl (by first | exact .inl rfl | exact .inr rfl) rfl (dm_call C.c__law_melted hr (by rfl) (da_cons (de_n (pv 1)) (da_cons (de_n (pv 5)) (da_cons (de_n (pv 2)) da_nil))) (many_cons (many_cons (many_cons many_nil)))))
  (dss_one (ds_if (dt_w (dw_or (dt_not (dt_val (dm_call C.c_is_tree hr (by rfl) (da_cons (de_n (pv 8)) da_nil) (many_cons many_nil)))) (dw_or1 (dt_cmp (od_ne (Ev.hu192 hr)) (de_m (dm_blt (cd_repr hr) (by rfl) G.n_repr (by decide +kernel) (da_cons (de_m (dm_call C.c_thawed hr (by rfl) (da_cons (de_n (pv 8)) da_nil) (many_cons many_nil))) da_nil))) (de_m (dm_blt (cd_repr hr) (by rfl) G.n_repr (by decide +kernel) (da_cons (de_n (pv 5)) da_nil))) (nomark _)))))
    (dss_one (ds_ret (dm_e de_bl)))
    dss_nil)))))))))
  (dss_one (ds_ret (dm_e de_bl)))))))))
end
structure Fs (w : World) (K : PySem.W.Frag) (mg : Str → Option Value) : Prop where
  G : Gs w K mg
  f_is_whole : ∃ f fd, Fun K "is_whole" "is_whole" s_is_whole f fd ∧ mg "is_whole" = some (.ref f)
  f_is_from_to : ∃ f fd, Fun K "is_from_to" "is_from_to" s_is_from_to f fd ∧ mg "is_from_to" = some (.ref f)
  f_stem_of : ∃ f fd, Fun K "stem_of" "stem_of" s_stem_of f fd ∧ mg "stem_of" = some (.ref f)
  f_is_word : ∃ f fd, Fun K "is_word" "is_word" s_is_word f fd ∧ mg "is_word" = some (.ref f)
  f_is_row : ∃ f fd, Fun K "is_row" "is_row" s_is_row f fd ∧ mg "is_row" = some (.ref f)
  f_is_bare : ∃ f fd, Fun K "is_bare" "is_bare" s_is_bare f fd ∧ mg "is_bare" = some (.ref f)
  f_are_pairs : ∃ f fd, Fun K "are_pairs" "are_pairs" s_are_pairs f fd ∧ mg "are_pairs" = some (.ref f)
  f_has_words : ∃ f fd, Fun K "has_words" "has_words" s_has_words f fd ∧ mg "has_words" = some (.ref f)
  f_is_node : ∃ f fd, Fun K "is_node" "is_node" s_is_node f fd ∧ mg "is_node" = some (.ref f)
  f_parts_of : ∃ f fd, Fun K "parts_of" "parts_of" s_parts_of f fd ∧ mg "parts_of" = some (.ref f)
  f_counted_parts : ∃ f fd, Fun K "counted_parts" "counted_parts" s_counted_parts f fd ∧ mg "counted_parts" = some (.ref f)
  f_is_tree : ∃ f fd, Fun K "is_tree" "is_tree" s_is_tree f fd ∧ mg "is_tree" = some (.ref f)
  f_with_parts : ∃ f fd, Fun K "with_parts" "with_parts" s_with_parts f fd ∧ mg "with_parts" = some (.ref f)
  f_thawed : ∃ f fd, Fun K "thawed" "thawed" s_thawed f fd ∧ mg "thawed" = some (.ref f)
  f__law_bag : ∃ f fd, Fun K "_law_bag" "_law_bag" s__law_bag f fd ∧ mg "_law_bag" = some (.ref f)
  f__law_take : ∃ f fd, Fun K "_law_take" "_law_take" s__law_take f fd ∧ mg "_law_take" = some (.ref f)
  f__law_words : ∃ f fd, Fun K "_law_words" "_law_words" s__law_words f fd ∧ mg "_law_words" = some (.ref f)
  f__law_plain : ∃ f fd, Fun K "_law_plain" "_law_plain" s__law_plain f fd ∧ mg "_law_plain" = some (.ref f)
  f__law_node : ∃ f fd, Fun K "_law_node" "_law_node" s__law_node f fd ∧ mg "_law_node" = some (.ref f)
  f__law_any : ∃ f fd, Fun K "_law_any" "_law_any" s__law_any f fd ∧ mg "_law_any" = some (.ref f)
  f__law_parts : ∃ f fd, Fun K "_law_parts" "_law_parts" s__law_parts f fd ∧ mg "_law_parts" = some (.ref f)
  f__law_thawed : ∃ f fd, Fun K "_law_thawed" "_law_thawed" s__law_thawed f fd ∧ mg "_law_thawed" = some (.ref f)
  f__law_melted : ∃ f fd, Fun K "_law_melted" "_law_melted" s__law_melted f fd ∧ mg "_law_melted" = some (.ref f)
  f_law : ∃ f fd, Fun K "law" "law" s_law f fd ∧ mg "law" = some (.ref f)
section
variable {P : Program} {w : World} {K : PySem.W.Frag} {mg : Str → Option Value} {base : Heap}
theorem bd_is_whole {f : Addr} {fd : FuncData} (F : Fun K "is_whole" "is_whole" s_is_whole f fd) : Binds K fd ["thing"] [] := F.binds (ps := ["thing"]) fun _ _ _ _ _ _ us hl => match us, hl with | [_], _ => rfl
theorem bd_is_from_to {f : Addr} {fd : FuncData} (F : Fun K "is_from_to" "is_from_to" s_is_from_to f fd) : Binds K fd ["thing", "least", "most"] [] := F.binds (ps := ["thing", "least", "most"]) fun _ _ _ _ _ _ us hl => match us, hl with | [_, _, _], _ => rfl
theorem bd_stem_of {f : Addr} {fd : FuncData} (F : Fun K "stem_of" "stem_of" s_stem_of f fd) : Binds K fd ["word"] [] := F.binds (ps := ["word"]) fun _ _ _ _ _ _ us hl => match us, hl with | [_], _ => rfl
theorem bd_is_word {f : Addr} {fd : FuncData} (F : Fun K "is_word" "is_word" s_is_word f fd) : Binds K fd ["thing"] [] := F.binds (ps := ["thing"]) fun _ _ _ _ _ _ us hl => match us, hl with | [_], _ => rfl
theorem bd_is_row {f : Addr} {fd : FuncData} (F : Fun K "is_row" "is_row" s_is_row f fd) : Binds K fd ["thing"] [] := F.binds (ps := ["thing"]) fun _ _ _ _ _ _ us hl => match us, hl with | [_], _ => rfl
theorem bd_is_bare {f : Addr} {fd : FuncData} (F : Fun K "is_bare" "is_bare" s_is_bare f fd) : Binds K fd ["thing"] [] := F.binds (ps := ["thing"]) fun _ _ _ _ _ _ us hl => match us, hl with | [_], _ => rfl
theorem bd_are_pairs {f : Addr} {fd : FuncData} (F : Fun K "are_pairs" "are_pairs" s_are_pairs f fd) : Binds K fd ["thing"] [] := F.binds (ps := ["thing"]) fun _ _ _ _ _ _ us hl => match us, hl with | [_], _ => rfl
theorem bd_has_words {f : Addr} {fd : FuncData} (F : Fun K "has_words" "has_words" s_has_words f fd) : Binds K fd ["thing"] [] := F.binds (ps := ["thing"]) fun _ _ _ _ _ _ us hl => match us, hl with | [_], _ => rfl
theorem bd_is_node {f : Addr} {fd : FuncData} (F : Fun K "is_node" "is_node" s_is_node f fd) : Binds K fd ["thing"] [] := F.binds (ps := ["thing"]) fun _ _ _ _ _ _ us hl => match us, hl with | [_], _ => rfl
theorem bd_parts_of {f : Addr} {fd : FuncData} (F : Fun K "parts_of" "parts_of" s_parts_of f fd) : Binds K fd ["tree"] [] := F.binds (ps := ["tree"]) fun _ _ _ _ _ _ us hl => match us, hl with | [_], _ => rfl
theorem bd_counted_parts {f : Addr} {fd : FuncData} (F : Fun K "counted_parts" "counted_parts" s_counted_parts f fd) : Binds K fd ["tree"] [] := F.binds (ps := ["tree"]) fun _ _ _ _ _ _ us hl => match us, hl with | [_], _ => rfl
theorem bd_is_tree {f : Addr} {fd : FuncData} (F : Fun K "is_tree" "is_tree" s_is_tree f fd) : Binds K fd ["thing"] [] := F.binds (ps := ["thing"]) fun _ _ _ _ _ _ us hl => match us, hl with | [_], _ => rfl
theorem bd_with_parts {f : Addr} {fd : FuncData} (F : Fun K "with_parts" "with_parts" s_with_parts f fd) : Binds K fd ["tree", "parts"] [] := F.binds (ps := ["tree", "parts"]) fun _ _ _ _ _ _ us hl => match us, hl with | [_, _], _ => rfl
theorem bd_thawed {f : Addr} {fd : FuncData} (F : Fun K "thawed" "thawed" s_thawed f fd) : Binds K fd ["tree"] [] := F.binds (ps := ["tree"]) fun _ _ _ _ _ _ us hl => match us, hl with | [_], _ => rfl
theorem bd__law_bag {f : Addr} {fd : FuncData} (F : Fun K "_law_bag" "_law_bag" s__law_bag f fd) : Binds K fd ["_law_script"] [] := F.binds (ps := ["_law_script"]) fun _ _ _ _ _ _ us hl => match us, hl with | [_], _ => rfl
theorem bd__law_take {f : Addr} {fd : FuncData} (F : Fun K "_law_take" "_law_take" s__law_take f fd) : Binds K fd ["_law_bag_here", "_law_many"] [] := F.binds (ps := ["_law_bag_here", "_law_many"]) fun _ _ _ _ _ _ us hl => match us, hl with | [_, _], _ => rfl
theorem bd__law_words {f : Addr} {fd : FuncData} (F : Fun K "_law_words" "_law_words" s__law_words f fd) : Binds K fd ["_law_bag_here", "_law_many"] [] := F.binds (ps := ["_law_bag_here", "_law_many"]) fun _ _ _ _ _ _ us hl => match us, hl with | [_, _], _ => rfl
theorem bd__law_plain {f : Addr} {fd : FuncData} (F : Fun K "_law_plain" "_law_plain" s__law_plain f fd) : Binds K fd ["_law_bag_here", "_law_scope"] [] := F.binds (ps := ["_law_bag_here", "_law_scope"]) fun _ _ _ _ _ _ us hl => match us, hl with | [_, _], _ => rfl
theorem bd__law_node {f : Addr} {fd : FuncData} (F : Fun K "_law_node" "_law_node" s__law_node f fd) : Binds K fd ["_law_bag_here", "_law_way", "_law_head", "_law_some", "_law_two"] [] := F.binds (ps := ["_law_bag_here", "_law_way", "_law_head", "_law_some", "_law_two"]) fun _ _ _ _ _ _ us hl => match us, hl with | [_, _, _, _, _], _ => rfl
theorem bd__law_any {f : Addr} {fd : FuncData} (F : Fun K "_law_any" "_law_any" s__law_any f fd) : Binds K fd ["_law_bag_here", "_law_words_here", "_law_room", "_law_deep"] [] := F.binds (ps := ["_law_bag_here", "_law_words_here", "_law_room", "_law_deep"]) fun _ _ _ _ _ _ us hl => match us, hl with | [_, _, _, _], _ => rfl
theorem bd__law_parts {f : Addr} {fd : FuncData} (F : Fun K "_law_parts" "_law_parts" s__law_parts f fd) : Binds K fd ["_law_tree"] [] := F.binds (ps := ["_law_tree"]) fun _ _ _ _ _ _ us hl => match us, hl with | [_], _ => rfl
theorem bd__law_thawed {f : Addr} {fd : FuncData} (F : Fun K "_law_thawed" "_law_thawed" s__law_thawed f fd) : Binds K fd ["_law_tree"] [] := F.binds (ps := ["_law_tree"]) fun _ _ _ _ _ _ us hl => match us, hl with | [_], _ => rfl
theorem bd__law_melted {f : Addr} {fd : FuncData} (F : Fun K "_law_melted" "_law_melted" s__law_melted f fd) : Binds K fd ["_law_bag_here", "_law_tree", "_law_words_here"] [] := F.binds (ps := ["_law_bag_here", "_law_tree", "_law_words_here"]) fun _ _ _ _ _ _ us hl => match us, hl with | [_, _, _], _ => rfl
theorem bd_law {f : Addr} {fd : FuncData} (F : Fun K "law" "law" s_law f fd) : Binds K fd ["_law_script"] [] := F.binds (ps := ["_law_script"]) fun _ _ _ _ _ _ us hl => match us, hl with | [_], _ => rfl
theorem cs (T : Fs w K mg) : ∀ n, Cs P w K mg base n (den n)
  | 0 => {
    c_is_whole := let ⟨_, _, F, m⟩ := T.f_is_whole; fnD_zero F m (bd_is_whole F)
    c_is_from_to := let ⟨_, _, F, m⟩ := T.f_is_from_to; fnD_zero F m (bd_is_from_to F)
    c_stem_of := let ⟨_, _, F, m⟩ := T.f_stem_of; fnD_zero F m (bd_stem_of F)
    c_is_word := let ⟨_, _, F, m⟩ := T.f_is_word; fnD_zero F m (bd_is_word F)
    c_is_row := let ⟨_, _, F, m⟩ := T.f_is_row; fnD_zero F m (bd_is_row F)
    c_is_bare := let ⟨_, _, F, m⟩ := T.f_is_bare; fnD_zero F m (bd_is_bare F)
    c_are_pairs := let ⟨_, _, F, m⟩ := T.f_are_pairs; fnD_zero F m (bd_are_pairs F)
    c_has_words := let ⟨_, _, F, m⟩ := T.f_has_words; fnD_zero F m (bd_has_words F)
    c_is_node := let ⟨_, _, F, m⟩ := T.f_is_node; fnD_zero F m (bd_is_node F)
    c_parts_of := let ⟨_, _, F, m⟩ := T.f_parts_of; fnD_zero F m (bd_parts_of F)
    c_counted_parts := let ⟨_, _, F, m⟩ := T.f_counted_parts; fnD_zero F m (bd_counted_parts F)
    c_is_tree := let ⟨_, _, F, m⟩ := T.f_is_tree; fnD_zero F m (bd_is_tree F)
    c_with_parts := let ⟨_, _, F, m⟩ := T.f_with_parts; fnD_zero F m (bd_with_parts F)
    c_thawed := let ⟨_, _, F, m⟩ := T.f_thawed; fnD_zero F m (bd_thawed F)
    c__law_bag := let ⟨_, _, F, m⟩ := T.f__law_bag; fnD_zero F m (bd__law_bag F)
    c__law_take := let ⟨_, _, F, m⟩ := T.f__law_take; fnD_zero F m (bd__law_take F)
    c__law_words := let ⟨_, _, F, m⟩ := T.f__law_words; fnD_zero F m (bd__law_words F)
    c__law_plain := let ⟨_, _, F, m⟩ := T.f__law_plain; fnD_zero F m (bd__law_plain F)
    c__law_node := let ⟨_, _, F, m⟩ := T.f__law_node; fnD_zero F m (bd__law_node F)
    c__law_any := let ⟨_, _, F, m⟩ := T.f__law_any; fnD_zero F m (bd__law_any F)
    c__law_parts := let ⟨_, _, F, m⟩ := T.f__law_parts; fnD_zero F m (bd__law_parts F)
    c__law_thawed := let ⟨_, _, F, m⟩ := T.f__law_thawed; fnD_zero F m (bd__law_thawed F)
    c__law_melted := let ⟨_, _, F, m⟩ := T.f__law_melted; fnD_zero F m (bd__law_melted F)
    c_law := let ⟨_, _, F, m⟩ := T.f_law; fnD_zero F m (bd_law F)
  }
  | n + 1 => {
    c_is_whole := let ⟨_, _, F, m⟩ := T.f_is_whole; ⟨_, _, _, rfl, den_is_whole n ▸ ok_is_whole F T.G (cs T n), m, F.kp, bd_is_whole F⟩
    c_is_from_to := let ⟨_, _, F, m⟩ := T.f_is_from_to; ⟨_, _, _, rfl, den_is_from_to n ▸ ok_is_from_to F T.G (cs T n), m, F.kp, bd_is_from_to F⟩
    c_stem_of := let ⟨_, _, F, m⟩ := T.f_stem_of; ⟨_, _, _, rfl, den_stem_of n ▸ ok_stem_of F T.G (cs T n), m, F.kp, bd_stem_of F⟩
    c_is_word := let ⟨_, _, F, m⟩ := T.f_is_word; ⟨_, _, _, rfl, den_is_word n ▸ ok_is_word F T.G (cs T n), m, F.kp, bd_is_word F⟩
    c_is_row := let ⟨_, _, F, m⟩ := T.f_is_row; ⟨_, _, _, rfl, den_is_row n ▸ ok_is_row F T.G (cs T n), m, F.kp, bd_is_row F⟩
    c_is_bare := let ⟨_, _, F, m⟩ := T.f_is_bare; ⟨_, _, _, rfl, den_is_bare n ▸ ok_is_bare F T.G (cs T n), m, F.kp, bd_is_bare F⟩
    c_are_pairs := let ⟨_, _, F, m⟩ := T.f_are_pairs; ⟨_, _, _, rfl, den_are_pairs n ▸ ok_are_pairs F T.G (cs T n), m, F.kp, bd_are_pairs F⟩
    c_has_words := let ⟨_, _, F, m⟩ := T.f_has_words; ⟨_, _, _, rfl, den_has_words n ▸ ok_has_words F T.G (cs T n), m, F.kp, bd_has_words F⟩
    c_is_node := let ⟨_, _, F, m⟩ := T.f_is_node; ⟨_, _, _, rfl, den_is_node n ▸ ok_is_node F T.G (cs T n), m, F.kp, bd_is_node F⟩
    c_parts_of := let ⟨_, _, F, m⟩ := T.f_parts_of; ⟨_, _, _, rfl, den_parts_of n ▸ ok_parts_of F T.G (cs T n), m, F.kp, bd_parts_of F⟩
    c_counted_parts := let ⟨_, _, F, m⟩ := T.f_counted_parts; ⟨_, _, _, rfl, den_counted_parts n ▸ ok_counted_parts F T.G (cs T n), m, F.kp, bd_counted_parts F⟩
    c_is_tree := let ⟨_, _, F, m⟩ := T.f_is_tree; ⟨_, _, _, rfl, den_is_tree n ▸ ok_is_tree F T.G (cs T n), m, F.kp, bd_is_tree F⟩
    c_with_parts := let ⟨_, _, F, m⟩ := T.f_with_parts; ⟨_, _, _, rfl, den_with_parts n ▸ ok_with_parts F T.G (cs T n), m, F.kp, bd_with_parts F⟩
    c_thawed := let ⟨_, _, F, m⟩ := T.f_thawed; ⟨_, _, _, rfl, den_thawed n ▸ ok_thawed F T.G (cs T n), m, F.kp, bd_thawed F⟩
    c__law_bag := let ⟨_, _, F, m⟩ := T.f__law_bag; ⟨_, _, _, rfl, den__law_bag n ▸ ok__law_bag F T.G (cs T n), m, F.kp, bd__law_bag F⟩
    c__law_take := let ⟨_, _, F, m⟩ := T.f__law_take; ⟨_, _, _, rfl, den__law_take n ▸ ok__law_take F T.G (cs T n), m, F.kp, bd__law_take F⟩
    c__law_words := let ⟨_, _, F, m⟩ := T.f__law_words; ⟨_, _, _, rfl, den__law_words n ▸ ok__law_words F T.G (cs T n), m, F.kp, bd__law_words F⟩
    c__law_plain := let ⟨_, _, F, m⟩ := T.f__law_plain; ⟨_, _, _, rfl, den__law_plain n ▸ ok__law_plain F T.G (cs T n), m, F.kp, bd__law_plain F⟩
    c__law_node := let ⟨_, _, F, m⟩ := T.f__law_node; ⟨_, _, _, rfl, den__law_node n ▸ ok__law_node F T.G (cs T n), m, F.kp, bd__law_node F⟩
    c__law_any := let ⟨_, _, F, m⟩ := T.f__law_any; ⟨_, _, _, rfl, den__law_any n ▸ ok__law_any F T.G (cs T n), m, F.kp, bd__law_any F⟩
    c__law_parts := let ⟨_, _, F, m⟩ := T.f__law_parts; ⟨_, _, _, rfl, den__law_parts n ▸ ok__law_parts F T.G (cs T n), m, F.kp, bd__law_parts F⟩
    c__law_thawed := let ⟨_, _, F, m⟩ := T.f__law_thawed; ⟨_, _, _, rfl, den__law_thawed n ▸ ok__law_thawed F T.G (cs T n), m, F.kp, bd__law_thawed F⟩
    c__law_melted := let ⟨_, _, F, m⟩ := T.f__law_melted; ⟨_, _, _, rfl, den__law_melted n ▸ ok__law_melted F T.G (cs T n), m, F.kp, bd__law_melted F⟩
    c_law := let ⟨_, _, F, m⟩ := T.f_law; ⟨_, _, _, rfl, den_law n ▸ ok_law F T.G (cs T n), m, F.kp, bd_law F⟩
  }
end
theorem all_mk {l : PySem.W.OpenLaw} {w : World} {K : PySem.W.Frag} {h : Heap} {mg : Str → Option Value} {fa : Addr} {N : Nat} (X : K.In h) (G : h.Ns mainGlobals mg) (hfa : mg "law" = some (.ref fa))
    {f1 : Addr} {od1 an1 : Option Addr} {sl1 : Array (Option Value)} {oc1 kV1 dc1 pm1 cd1 ct1 : Value}
    (a1 : PySem.W.nsIn K mainGlobals "is_whole" = some (some (.ref f1))) (l1 : K.lookup f1 = some ⟨oc1, od1, .func (PySem.W.fnOf "is_whole" "is_whole" (defArgs s_is_whole) (defBody s_is_whole) (defScope s_is_whole) .none kV1 dc1 pm1 an1 cd1 ct1), sl1⟩) (c1 : PySem.W.codeIn K cd1 "is_whole" = true) (k1 : PySem.W.keepIn K (.ref f1) = true)
    {f2 : Addr} {od2 an2 : Option Addr} {sl2 : Array (Option Value)} {oc2 kV2 dc2 pm2 cd2 ct2 : Value}
    (a2 : PySem.W.nsIn K mainGlobals "is_from_to" = some (some (.ref f2))) (l2 : K.lookup f2 = some ⟨oc2, od2, .func (PySem.W.fnOf "is_from_to" "is_from_to" (defArgs s_is_from_to) (defBody s_is_from_to) (defScope s_is_from_to) .none kV2 dc2 pm2 an2 cd2 ct2), sl2⟩) (c2 : PySem.W.codeIn K cd2 "is_from_to" = true) (k2 : PySem.W.keepIn K (.ref f2) = true)
    {f3 : Addr} {od3 an3 : Option Addr} {sl3 : Array (Option Value)} {oc3 kV3 dc3 pm3 cd3 ct3 : Value}
    (a3 : PySem.W.nsIn K mainGlobals "stem_of" = some (some (.ref f3))) (l3 : K.lookup f3 = some ⟨oc3, od3, .func (PySem.W.fnOf "stem_of" "stem_of" (defArgs s_stem_of) (defBody s_stem_of) (defScope s_stem_of) .none kV3 dc3 pm3 an3 cd3 ct3), sl3⟩) (c3 : PySem.W.codeIn K cd3 "stem_of" = true) (k3 : PySem.W.keepIn K (.ref f3) = true)
    {f4 : Addr} {od4 an4 : Option Addr} {sl4 : Array (Option Value)} {oc4 kV4 dc4 pm4 cd4 ct4 : Value}
    (a4 : PySem.W.nsIn K mainGlobals "is_word" = some (some (.ref f4))) (l4 : K.lookup f4 = some ⟨oc4, od4, .func (PySem.W.fnOf "is_word" "is_word" (defArgs s_is_word) (defBody s_is_word) (defScope s_is_word) .none kV4 dc4 pm4 an4 cd4 ct4), sl4⟩) (c4 : PySem.W.codeIn K cd4 "is_word" = true) (k4 : PySem.W.keepIn K (.ref f4) = true)
    {f5 : Addr} {od5 an5 : Option Addr} {sl5 : Array (Option Value)} {oc5 kV5 dc5 pm5 cd5 ct5 : Value}
    (a5 : PySem.W.nsIn K mainGlobals "is_row" = some (some (.ref f5))) (l5 : K.lookup f5 = some ⟨oc5, od5, .func (PySem.W.fnOf "is_row" "is_row" (defArgs s_is_row) (defBody s_is_row) (defScope s_is_row) .none kV5 dc5 pm5 an5 cd5 ct5), sl5⟩) (c5 : PySem.W.codeIn K cd5 "is_row" = true) (k5 : PySem.W.keepIn K (.ref f5) = true)
    {f6 : Addr} {od6 an6 : Option Addr} {sl6 : Array (Option Value)} {oc6 kV6 dc6 pm6 cd6 ct6 : Value}
    (a6 : PySem.W.nsIn K mainGlobals "is_bare" = some (some (.ref f6))) (l6 : K.lookup f6 = some ⟨oc6, od6, .func (PySem.W.fnOf "is_bare" "is_bare" (defArgs s_is_bare) (defBody s_is_bare) (defScope s_is_bare) .none kV6 dc6 pm6 an6 cd6 ct6), sl6⟩) (c6 : PySem.W.codeIn K cd6 "is_bare" = true) (k6 : PySem.W.keepIn K (.ref f6) = true)
    {f7 : Addr} {od7 an7 : Option Addr} {sl7 : Array (Option Value)} {oc7 kV7 dc7 pm7 cd7 ct7 : Value}
    (a7 : PySem.W.nsIn K mainGlobals "are_pairs" = some (some (.ref f7))) (l7 : K.lookup f7 = some ⟨oc7, od7, .func (PySem.W.fnOf "are_pairs" "are_pairs" (defArgs s_are_pairs) (defBody s_are_pairs) (defScope s_are_pairs) .none kV7 dc7 pm7 an7 cd7 ct7), sl7⟩) (c7 : PySem.W.codeIn K cd7 "are_pairs" = true) (k7 : PySem.W.keepIn K (.ref f7) = true)
    {f8 : Addr} {od8 an8 : Option Addr} {sl8 : Array (Option Value)} {oc8 kV8 dc8 pm8 cd8 ct8 : Value}
    (a8 : PySem.W.nsIn K mainGlobals "has_words" = some (some (.ref f8))) (l8 : K.lookup f8 = some ⟨oc8, od8, .func (PySem.W.fnOf "has_words" "has_words" (defArgs s_has_words) (defBody s_has_words) (defScope s_has_words) .none kV8 dc8 pm8 an8 cd8 ct8), sl8⟩) (c8 : PySem.W.codeIn K cd8 "has_words" = true) (k8 : PySem.W.keepIn K (.ref f8) = true)
    {f9 : Addr} {od9 an9 : Option Addr} {sl9 : Array (Option Value)} {oc9 kV9 dc9 pm9 cd9 ct9 : Value}
    (a9 : PySem.W.nsIn K mainGlobals "is_node" = some (some (.ref f9))) (l9 : K.lookup f9 = some ⟨oc9, od9, .func (PySem.W.fnOf "is_node" "is_node" (defArgs s_is_node) (defBody s_is_node) (defScope s_is_node) .none kV9 dc9 pm9 an9 cd9 ct9), sl9⟩) (c9 : PySem.W.codeIn K cd9 "is_node" = true) (k9 : PySem.W.keepIn K (.ref f9) = true)
    {f10 : Addr} {od10 an10 : Option Addr} {sl10 : Array (Option Value)} {oc10 kV10 dc10 pm10 cd10 ct10 : Value}
    (a10 : PySem.W.nsIn K mainGlobals "parts_of" = some (some (.ref f10))) (l10 : K.lookup f10 = some ⟨oc10, od10, .func (PySem.W.fnOf "parts_of" "parts_of" (defArgs s_parts_of) (defBody s_parts_of) (defScope s_parts_of) .none kV10 dc10 pm10 an10 cd10 ct10), sl10⟩) (c10 : PySem.W.codeIn K cd10 "parts_of" = true) (k10 : PySem.W.keepIn K (.ref f10) = true)
    {f11 : Addr} {od11 an11 : Option Addr} {sl11 : Array (Option Value)} {oc11 kV11 dc11 pm11 cd11 ct11 : Value}
    (a11 : PySem.W.nsIn K mainGlobals "counted_parts" = some (some (.ref f11))) (l11 : K.lookup f11 = some ⟨oc11, od11, .func (PySem.W.fnOf "counted_parts" "counted_parts" (defArgs s_counted_parts) (defBody s_counted_parts) (defScope s_counted_parts) .none kV11 dc11 pm11 an11 cd11 ct11), sl11⟩) (c11 : PySem.W.codeIn K cd11 "counted_parts" = true) (k11 : PySem.W.keepIn K (.ref f11) = true)
    {f12 : Addr} {od12 an12 : Option Addr} {sl12 : Array (Option Value)} {oc12 kV12 dc12 pm12 cd12 ct12 : Value}
    (a12 : PySem.W.nsIn K mainGlobals "is_tree" = some (some (.ref f12))) (l12 : K.lookup f12 = some ⟨oc12, od12, .func (PySem.W.fnOf "is_tree" "is_tree" (defArgs s_is_tree) (defBody s_is_tree) (defScope s_is_tree) .none kV12 dc12 pm12 an12 cd12 ct12), sl12⟩) (c12 : PySem.W.codeIn K cd12 "is_tree" = true) (k12 : PySem.W.keepIn K (.ref f12) = true)
    {f13 : Addr} {od13 an13 : Option Addr} {sl13 : Array (Option Value)} {oc13 kV13 dc13 pm13 cd13 ct13 : Value}
    (a13 : PySem.W.nsIn K mainGlobals "with_parts" = some (some (.ref f13))) (l13 : K.lookup f13 = some ⟨oc13, od13, .func (PySem.W.fnOf "with_parts" "with_parts" (defArgs s_with_parts) (defBody s_with_parts) (defScope s_with_parts) .none kV13 dc13 pm13 an13 cd13 ct13), sl13⟩) (c13 : PySem.W.codeIn K cd13 "with_parts" = true) (k13 : PySem.W.keepIn K (.ref f13) = true)
    {f14 : Addr} {od14 an14 : Option Addr} {sl14 : Array (Option Value)} {oc14 kV14 dc14 pm14 cd14 ct14 : Value}
    (a14 : PySem.W.nsIn K mainGlobals "thawed" = some (some (.ref f14))) (l14 : K.lookup f14 = some ⟨oc14, od14, .func (PySem.W.fnOf "thawed" "thawed" (defArgs s_thawed) (defBody s_thawed) (defScope s_thawed) .none kV14 dc14 pm14 an14 cd14 ct14), sl14⟩) (c14 : PySem.W.codeIn K cd14 "thawed" = true) (k14 : PySem.W.keepIn K (.ref f14) = true)
    {f15 : Addr} {od15 an15 : Option Addr} {sl15 : Array (Option Value)} {oc15 kV15 dc15 pm15 cd15 ct15 : Value}
    (a15 : PySem.W.nsIn K mainGlobals "_law_bag" = some (some (.ref f15))) (l15 : K.lookup f15 = some ⟨oc15, od15, .func (PySem.W.fnOf "_law_bag" "_law_bag" (defArgs s__law_bag) (defBody s__law_bag) (defScope s__law_bag) .none kV15 dc15 pm15 an15 cd15 ct15), sl15⟩) (c15 : PySem.W.codeIn K cd15 "_law_bag" = true) (k15 : PySem.W.keepIn K (.ref f15) = true)
    {f16 : Addr} {od16 an16 : Option Addr} {sl16 : Array (Option Value)} {oc16 kV16 dc16 pm16 cd16 ct16 : Value}
    (a16 : PySem.W.nsIn K mainGlobals "_law_take" = some (some (.ref f16))) (l16 : K.lookup f16 = some ⟨oc16, od16, .func (PySem.W.fnOf "_law_take" "_law_take" (defArgs s__law_take) (defBody s__law_take) (defScope s__law_take) .none kV16 dc16 pm16 an16 cd16 ct16), sl16⟩) (c16 : PySem.W.codeIn K cd16 "_law_take" = true) (k16 : PySem.W.keepIn K (.ref f16) = true)
    {f17 : Addr} {od17 an17 : Option Addr} {sl17 : Array (Option Value)} {oc17 kV17 dc17 pm17 cd17 ct17 : Value}
    (a17 : PySem.W.nsIn K mainGlobals "_law_words" = some (some (.ref f17))) (l17 : K.lookup f17 = some ⟨oc17, od17, .func (PySem.W.fnOf "_law_words" "_law_words" (defArgs s__law_words) (defBody s__law_words) (defScope s__law_words) .none kV17 dc17 pm17 an17 cd17 ct17), sl17⟩) (c17 : PySem.W.codeIn K cd17 "_law_words" = true) (k17 : PySem.W.keepIn K (.ref f17) = true)
    {f18 : Addr} {od18 an18 : Option Addr} {sl18 : Array (Option Value)} {oc18 kV18 dc18 pm18 cd18 ct18 : Value}
    (a18 : PySem.W.nsIn K mainGlobals "_law_plain" = some (some (.ref f18))) (l18 : K.lookup f18 = some ⟨oc18, od18, .func (PySem.W.fnOf "_law_plain" "_law_plain" (defArgs s__law_plain) (defBody s__law_plain) (defScope s__law_plain) .none kV18 dc18 pm18 an18 cd18 ct18), sl18⟩) (c18 : PySem.W.codeIn K cd18 "_law_plain" = true) (k18 : PySem.W.keepIn K (.ref f18) = true)
    {f19 : Addr} {od19 an19 : Option Addr} {sl19 : Array (Option Value)} {oc19 kV19 dc19 pm19 cd19 ct19 : Value}
    (a19 : PySem.W.nsIn K mainGlobals "_law_node" = some (some (.ref f19))) (l19 : K.lookup f19 = some ⟨oc19, od19, .func (PySem.W.fnOf "_law_node" "_law_node" (defArgs s__law_node) (defBody s__law_node) (defScope s__law_node) .none kV19 dc19 pm19 an19 cd19 ct19), sl19⟩) (c19 : PySem.W.codeIn K cd19 "_law_node" = true) (k19 : PySem.W.keepIn K (.ref f19) = true)
    {f20 : Addr} {od20 an20 : Option Addr} {sl20 : Array (Option Value)} {oc20 kV20 dc20 pm20 cd20 ct20 : Value}
    (a20 : PySem.W.nsIn K mainGlobals "_law_any" = some (some (.ref f20))) (l20 : K.lookup f20 = some ⟨oc20, od20, .func (PySem.W.fnOf "_law_any" "_law_any" (defArgs s__law_any) (defBody s__law_any) (defScope s__law_any) .none kV20 dc20 pm20 an20 cd20 ct20), sl20⟩) (c20 : PySem.W.codeIn K cd20 "_law_any" = true) (k20 : PySem.W.keepIn K (.ref f20) = true)
    {f21 : Addr} {od21 an21 : Option Addr} {sl21 : Array (Option Value)} {oc21 kV21 dc21 pm21 cd21 ct21 : Value}
    (a21 : PySem.W.nsIn K mainGlobals "_law_parts" = some (some (.ref f21))) (l21 : K.lookup f21 = some ⟨oc21, od21, .func (PySem.W.fnOf "_law_parts" "_law_parts" (defArgs s__law_parts) (defBody s__law_parts) (defScope s__law_parts) .none kV21 dc21 pm21 an21 cd21 ct21), sl21⟩) (c21 : PySem.W.codeIn K cd21 "_law_parts" = true) (k21 : PySem.W.keepIn K (.ref f21) = true)
    {f22 : Addr} {od22 an22 : Option Addr} {sl22 : Array (Option Value)} {oc22 kV22 dc22 pm22 cd22 ct22 : Value}
    (a22 : PySem.W.nsIn K mainGlobals "_law_thawed" = some (some (.ref f22))) (l22 : K.lookup f22 = some ⟨oc22, od22, .func (PySem.W.fnOf "_law_thawed" "_law_thawed" (defArgs s__law_thawed) (defBody s__law_thawed) (defScope s__law_thawed) .none kV22 dc22 pm22 an22 cd22 ct22), sl22⟩) (c22 : PySem.W.codeIn K cd22 "_law_thawed" = true) (k22 : PySem.W.keepIn K (.ref f22) = true)
    {f23 : Addr} {od23 an23 : Option Addr} {sl23 : Array (Option Value)} {oc23 kV23 dc23 pm23 cd23 ct23 : Value}
    (a23 : PySem.W.nsIn K mainGlobals "_law_melted" = some (some (.ref f23))) (l23 : K.lookup f23 = some ⟨oc23, od23, .func (PySem.W.fnOf "_law_melted" "_law_melted" (defArgs s__law_melted) (defBody s__law_melted) (defScope s__law_melted) .none kV23 dc23 pm23 an23 cd23 ct23), sl23⟩) (c23 : PySem.W.codeIn K cd23 "_law_melted" = true) (k23 : PySem.W.keepIn K (.ref f23) = true)
    {f24 : Addr} {od24 an24 : Option Addr} {sl24 : Array (Option Value)} {oc24 kV24 dc24 pm24 cd24 ct24 : Value}
    (a24 : PySem.W.nsIn K mainGlobals "law" = some (some (.ref f24))) (l24 : K.lookup f24 = some ⟨oc24, od24, .func (PySem.W.fnOf "law" "law" (defArgs s_law) (defBody s_law) (defScope s_law) .none kV24 dc24 pm24 an24 cd24 ct24), sl24⟩) (c24 : PySem.W.codeIn K cd24 "law" = true) (k24 : PySem.W.keepIn K (.ref f24) = true)
    (z1 : PySem.W.nsIn K mainGlobals "abs" = some none)
    (z2 : PySem.W.nsIn K mainGlobals "all" = some none)
    (z3 : PySem.W.nsIn K mainGlobals "bool" = some none)
    (z4 : PySem.W.nsIn K mainGlobals "int" = some none)
    (z5 : PySem.W.nsIn K mainGlobals "isinstance" = some none)
    (z6 : PySem.W.nsIn K mainGlobals "len" = some none)
    (z7 : PySem.W.nsIn K mainGlobals "list" = some none)
    (z8 : PySem.W.nsIn K mainGlobals "max" = some none)
    (z9 : PySem.W.nsIn K mainGlobals "range" = some none)
    (z10 : PySem.W.nsIn K mainGlobals "repr" = some none)
    (z11 : PySem.W.nsIn K mainGlobals "set" = some none)
    (z12 : PySem.W.nsIn K mainGlobals "str" = some none)
    (z13 : PySem.W.nsIn K mainGlobals "tuple" = some none)
    (z14 : PySem.W.nsIn K mainGlobals "zip" = some none)
    {ga15 : Addr} {go15 : Obj} {gi15 : Array Value} {gn15 : Nat} (z15 : PySem.W.nsIn K mainGlobals "KEPT" = some (some (.ref ga15))) (y15 : K.lookup ga15 = some go15) (yc15 : go15.cls = .type "tuple") (yd15 : go15.data = .seq gi15 gn15) (ye15 : flatIs gi15.toList [(.str "yes"), (.str "no"), (.str "if"), (.str "let"), (.str "loop"), (.str "raise"), (.str "try"), (.str "pick"), (.str "many"), (.str "parts"), (.str "mark"), (.str "melt"), (.str "def")] = true)
    {t16 : Tok} (z16 : PySem.W.nsIn K mainGlobals "LETTERS" = some (some (.str ("abcdefghijklmnopqrstuvwxyz") t16)))
    {t17 : Tok} (z17 : PySem.W.nsIn K mainGlobals "FIGURES" = some (some (.str ("0123456789") t17)))
    {t18 : Tok} (z18 : PySem.W.nsIn K mainGlobals "MOST_LETTERS" = some (some (.int (8) t18)))
    {t19 : Tok} (z19 : PySem.W.nsIn K mainGlobals "MOST_FIGURES" = some (some (.int (3) t19)))
    {ga20 : Addr} {go20 : Obj} {gi20 : Array Value} {gn20 : Nat} (z20 : PySem.W.nsIn K mainGlobals "PLAIN" = some (some (.ref ga20))) (y20 : K.lookup ga20 = some go20) (yc20 : go20.cls = .type "tuple") (yd20 : go20.data = .seq gi20 gn20) (ye20 : flatIs gi20.toList [(.str "number"), (.str "truth"), (.str "name")] = true)
    {ga21 : Addr} {go21 : Obj} {gi21 : Array Value} {gn21 : Nat} (z21 : PySem.W.nsIn K mainGlobals "SIGNS" = some (some (.ref ga21))) (y21 : K.lookup ga21 = some go21) (yc21 : go21.cls = .type "tuple") (yd21 : go21.data = .seq gi21 gn21) (ye21 : flatIs gi21.toList [(.str "+"), (.str "-"), (.str "*"), (.str "/"), (.str "<"), (.str "=")] = true)
    {ga22 : Addr} {go22 : Obj} {gi22 : Array DictEntry} {gn22 : Nat} (z22 : PySem.W.nsIn K mainGlobals "SHAPES" = some (some (.ref ga22))) (y22 : K.lookup ga22 = some go22) (yx22 : go22.ExactDict) (yd22 : go22.data = .dict gi22 gn22) (yt22 : tabIs w gi22.toList t_SHAPES) (yc22 : (ga22 == sysModules) = false)
    {t23 : Tok} (z23 : PySem.W.nsIn K mainGlobals "MOST_NUMBER" = some (some (.int (1000000000) t23)))
    {t24 : Tok} (z24 : PySem.W.nsIn K mainGlobals "MOST_ARGS" = some (some (.int (4) t24)))
    {t25 : Tok} (z25 : PySem.W.nsIn K mainGlobals "MOST_NODES" = some (some (.int (2000) t25)))
    {t26 : Tok} (z26 : PySem.W.nsIn K mainGlobals "MOST_DEPTH" = some (some (.int (64) t26)))
    : ∃ fd : FuncData, (∀ (s : Shared) (v : Value), BindsTo s fd ⟨[v], []⟩ [("_law_script", v)]) ∧ ∀ base : Heap, K.In base → base.Ns mainGlobals mg → FnG l.prog w K mg base (N + 1) fa fd ["_law_script"] (spD K 1 (g_law (den N))) := by
  have e := hfa.symm.trans (PySem.W.mg_of X G a24)
  cases e
  have T : Fs w K mg := {
    G := { n_abs := PySem.W.mg_none_of X G z1, n_all := PySem.W.mg_none_of X G z2, n_bool := PySem.W.mg_none_of X G z3, n_int := PySem.W.mg_none_of X G z4, n_isinstance := PySem.W.mg_none_of X G z5, n_len := PySem.W.mg_none_of X G z6, n_list := PySem.W.mg_none_of X G z7, n_max := PySem.W.mg_none_of X G z8, n_range := PySem.W.mg_none_of X G z9, n_repr := PySem.W.mg_none_of X G z10, n_set := PySem.W.mg_none_of X G z11, n_str := PySem.W.mg_none_of X G z12, n_tuple := PySem.W.mg_none_of X G z13, n_zip := PySem.W.mg_none_of X G z14, g_KEPT := globD_tup (PySem.W.mg_of X G z15) y15 yc15 yd15 ye15, g_LETTERS := globD_str (PySem.W.mg_of X G z16), g_FIGURES := globD_str (PySem.W.mg_of X G z17), g_MOST_LETTERS := globD_int (PySem.W.mg_of X G z18), g_MOST_FIGURES := globD_int (PySem.W.mg_of X G z19), g_PLAIN := globD_tup (PySem.W.mg_of X G z20) y20 yc20 yd20 ye20, g_SIGNS := globD_tup (PySem.W.mg_of X G z21) y21 yc21 yd21 ye21, g_SHAPES := ⟨_, _, _, _, PySem.W.mg_of X G z22, y22, yx22, yd22, yt22, yc22, by decide +kernel⟩, g_MOST_NUMBER := globD_int (PySem.W.mg_of X G z23), g_MOST_ARGS := globD_int (PySem.W.mg_of X G z24), g_MOST_NODES := globD_int (PySem.W.mg_of X G z25), g_MOST_DEPTH := globD_int (PySem.W.mg_of X G z26) }
    f_is_whole := ⟨_, _, fun_mk (st := s_is_whole) l1 c1 k1, PySem.W.mg_of X G a1⟩
    f_is_from_to := ⟨_, _, fun_mk (st := s_is_from_to) l2 c2 k2, PySem.W.mg_of X G a2⟩
    f_stem_of := ⟨_, _, fun_mk (st := s_stem_of) l3 c3 k3, PySem.W.mg_of X G a3⟩
    f_is_word := ⟨_, _, fun_mk (st := s_is_word) l4 c4 k4, PySem.W.mg_of X G a4⟩
    f_is_row := ⟨_, _, fun_mk (st := s_is_row) l5 c5 k5, PySem.W.mg_of X G a5⟩
    f_is_bare := ⟨_, _, fun_mk (st := s_is_bare) l6 c6 k6, PySem.W.mg_of X G a6⟩
    f_are_pairs := ⟨_, _, fun_mk (st := s_are_pairs) l7 c7 k7, PySem.W.mg_of X G a7⟩
    f_has_words := ⟨_, _, fun_mk (st := s_has_words) l8 c8 k8, PySem.W.mg_of X G a8⟩
    f_is_node := ⟨_, _, fun_mk (st := s_is_node) l9 c9 k9, PySem.W.mg_of X G a9⟩
    f_parts_of := ⟨_, _, fun_mk (st := s_parts_of) l10 c10 k10, PySem.W.mg_of X G a10⟩
    f_counted_parts := ⟨_, _, fun_mk (st := s_counted_parts) l11 c11 k11, PySem.W.mg_of X G a11⟩
    f_is_tree := ⟨_, _, fun_mk (st := s_is_tree) l12 c12 k12, PySem.W.mg_of X G a12⟩
    f_with_parts := ⟨_, _, fun_mk (st := s_with_parts) l13 c13 k13, PySem.W.mg_of X G a13⟩
    f_thawed := ⟨_, _, fun_mk (st := s_thawed) l14 c14 k14, PySem.W.mg_of X G a14⟩
    f__law_bag := ⟨_, _, fun_mk (st := s__law_bag) l15 c15 k15, PySem.W.mg_of X G a15⟩
    f__law_take := ⟨_, _, fun_mk (st := s__law_take) l16 c16 k16, PySem.W.mg_of X G a16⟩
    f__law_words := ⟨_, _, fun_mk (st := s__law_words) l17 c17 k17, PySem.W.mg_of X G a17⟩
    f__law_plain := ⟨_, _, fun_mk (st := s__law_plain) l18 c18 k18, PySem.W.mg_of X G a18⟩
    f__law_node := ⟨_, _, fun_mk (st := s__law_node) l19 c19 k19, PySem.W.mg_of X G a19⟩
    f__law_any := ⟨_, _, fun_mk (st := s__law_any) l20 c20 k20, PySem.W.mg_of X G a20⟩
    f__law_parts := ⟨_, _, fun_mk (st := s__law_parts) l21 c21 k21, PySem.W.mg_of X G a21⟩
    f__law_thawed := ⟨_, _, fun_mk (st := s__law_thawed) l22 c22 k22, PySem.W.mg_of X G a22⟩
    f__law_melted := ⟨_, _, fun_mk (st := s__law_melted) l23 c23 k23, PySem.W.mg_of X G a23⟩
    f_law := ⟨_, _, fun_mk (st := s_law) l24 c24 k24, PySem.W.mg_of X G a24⟩
  }
  exact ⟨PySem.W.fnOf "law" "law" (defArgs s_law) (defBody s_law) (defScope s_law) .none kV24 dc24 pm24 an24 cd24 ct24, fun s v => .of_eq rfl, fun base _ _ => ok_law (fun_mk (st := s_law) l24 c24 k24) T.G (cs T N)⟩
/-- what a node is, its trees aside -/
inductive Kd
  | num (i : Int) | tru (b : Bool) | nam (w : Str) | rai (w : Str) | do_ (w : Str) | let_ (w : Str) | pick (i : Int) | mark (i : Int)
  | many | iff | parts | loop (w w2 : Str) | try_ (w : Str) | call (w : Str) | melt (w : Str) (ws : List Str)
def Kd.mk : Kd → List D → D
  | .num i, _ => .tup [.str "number", .int i]
  | .tru b, _ => .tup [.str "truth", .bl b]
  | .nam w, _ => .tup [.str "name", .str w]
  | .rai w, _ => .tup [.str "raise", .str w]
  | .do_ w, ds => .tup (.str "do" :: .str w :: ds)
  | .let_ w, ds => .tup (.str "let" :: .str w :: ds)
  | .pick i, ds => .tup (.str "pick" :: .int i :: ds)
  | .mark i, ds => .tup (.str "mark" :: .int i :: ds)
  | .many, ds => .tup (.str "many" :: ds)
  | .iff, ds => .tup (.str "if" :: ds)
  | .parts, ds => .tup [.str "parts", .tup ds]
  | .loop w w2, ds => .tup [.str "loop", .str w, ds.getD 0 .non, .str w2, ds.getD 1 .non, ds.getD 2 .non]
  | .try_ w, ds => .tup [.str "try", ds.getD 0 .non, .str w, ds.getD 1 .non]
  | .call w, ds => .tup [.str "call", .str w, .tup ds]
  | .melt w ws, ds => .tup [.str "melt", .str w, .tup (List.zipWith (fun w d => .tup [.str w, d]) ws ds), ds.getD ws.length .non]
def Kd.ar : Kd → Nat → Prop
  | .num _, n | .tru _, n | .nam _, n | .rai _, n => n = 0
  | .do_ _, n | .let_ _, n | .try_ _, n => n = 2
  | .pick _, n | .mark _, n | .many, n => n = 1
  | .iff, n | .loop _ _, n => n = 3
  | .parts, n | .call _, n => n ≤ 1000
  | .melt _ ws, n => n = ws.length + 1 ∧ ws.length ≤ 1000
inductive Tr
  | nd (k : Kd) (xs : List Tr)
def Tr.xs : Tr → List Tr
  | .nd _ xs => xs
mutual
def Tr.d : Tr → D
  | .nd k xs => k.mk (Tr.ds xs)
def Tr.ds : List Tr → List D
  | [] => []
  | x :: xs => x.d :: Tr.ds xs
end
mutual
def Tr.ok : Tr → Prop
  | .nd k xs => k.ar xs.length ∧ Tr.oks xs
def Tr.oks : List Tr → Prop
  | [] => True
  | x :: xs => x.ok ∧ Tr.oks xs
end
mutual
def Tr.sz : Tr → Nat
  | .nd _ xs => Tr.szs xs + 1
def Tr.szs : List Tr → Nat
  | [] => 0
  | x :: xs => x.sz + Tr.szs xs
end
mutual
def Tr.dep : Tr → Nat
  | .nd _ xs => Tr.deps xs + 1
def Tr.deps : List Tr → Nat
  | [] => 0
  | x :: xs => max x.dep (Tr.deps xs)
end
def Kd.thw : Kd → List Tr → Tr
  | .melt w _, xs => .nd (.call w) xs.dropLast
  | k, xs => .nd k xs
mutual
def Tr.th : Tr → Tr
  | .nd k xs => k.thw (Tr.ths xs)
def Tr.ths : List Tr → List Tr
  | [] => []
  | x :: xs => x.th :: Tr.ths xs
end
mutual
def Tr.ls : Tr → List Tr
  | .nd k xs => .nd k xs :: Tr.lss xs
def Tr.lss : List Tr → List Tr
  | [] => []
  | x :: xs => x.ls ++ Tr.lss xs
end
theorem ds_len : ∀ xs : List Tr, (Tr.ds xs).length = xs.length
  | [] => rfl
  | x :: xs => congrArg (· + 1) (ds_len xs)
theorem ds_map : ∀ xs : List Tr, Tr.ds xs = xs.map Tr.d
  | [] => rfl
  | x :: xs => congrArg (x.d :: ·) (ds_map xs)
theorem ds_app (xs ys : List Tr) : Tr.ds (xs ++ ys) = Tr.ds xs ++ Tr.ds ys := by rw [ds_map, ds_map, ds_map, List.map_append]
theorem ths_map : ∀ xs : List Tr, Tr.ths xs = xs.map Tr.th
  | [] => rfl
  | x :: xs => congrArg (x.th :: ·) (ths_map xs)
theorem oks_mem : ∀ {xs : List Tr}, Tr.oks xs → ∀ x ∈ xs, x.ok
  | [], _, x, h => by simp at h
  | y :: ys, ⟨h1, h2⟩, x, h => by
    rcases List.mem_cons.mp h with e | e
    · rw [e]; exact h1
    · exact oks_mem h2 x e
theorem oks_of : ∀ {xs : List Tr}, (∀ x ∈ xs, x.ok) → Tr.oks xs
  | [], _ => trivial
  | y :: ys, h => ⟨h y (List.mem_cons_self ..), oks_of fun x hx => h x (List.mem_cons_of_mem _ hx)⟩
theorem deps_mem : ∀ {xs : List Tr} {n : Nat}, Tr.deps xs ≤ n → ∀ x ∈ xs, x.dep ≤ n
  | [], _, _, x, h => by simp at h
  | y :: ys, n, h0, x, h => by
    have h0 : max y.dep (Tr.deps ys) ≤ n := h0
    rcases List.mem_cons.mp h with e | e
    · rw [e]; omega
    · exact deps_mem (by omega) x e
theorem tdeps_of : ∀ {xs : List Tr} {n : Nat}, (∀ x ∈ xs, x.dep ≤ n) → Tr.deps xs ≤ n
  | [], n, _ => Nat.zero_le _
  | y :: ys, n, h => by
    have h1 := h y (List.mem_cons_self ..)
    have h2 := tdeps_of fun x hx => h x (List.mem_cons_of_mem _ hx)
    show max y.dep (Tr.deps ys) ≤ n
    omega
theorem len1 {α : Type} {xs : List α} (h : xs.length = 1) : ∃ a, xs = [a] := by
  match xs, h with
  | [a], _ => exact ⟨a, rfl⟩
theorem len2 {α : Type} {xs : List α} (h : xs.length = 2) : ∃ a b, xs = [a, b] := by
  match xs, h with
  | [a, b], _ => exact ⟨a, b, rfl⟩
theorem len3 {α : Type} {xs : List α} (h : xs.length = 3) : ∃ a b c, xs = [a, b, c] := by
  match xs, h with
  | [a, b, c], _ => exact ⟨a, b, c, rfl⟩
theorem inD_t2 (x a b : Str) : inD (.str x) (.tup [.str a, .str b]) = some (.d (.bl (a == x || b == x))) := by
  have h : inOk (.str x) [.str a, .str b] = true := inOk_strs x [a, b]
  show (if inOk (.str x) [.str a, .str b] = true then some (M.d (.bl ([D.str a, .str b].any fun y => D.eqb y (.str x)))) else none) = _
  rw [if_pos h]
  simp
theorem inD_t4 (x a b c d : Str) : inD (.str x) (.tup [.str a, .str b, .str c, .str d]) = some (.d (.bl (a == x || (b == x || (c == x || d == x))))) := by
  have h : inOk (.str x) [.str a, .str b, .str c, .str d] = true := inOk_strs x [a, b, c, d]
  show (if inOk (.str x) [.str a, .str b, .str c, .str d] = true then some (M.d (.bl ([D.str a, .str b, .str c, .str d].any fun y => D.eqb y (.str x)))) else none) = _
  rw [if_pos h]
  simp
theorem cut_2n (a b : D) (ds : List D) : cutD (a :: b :: ds) (some 2) none = ds := by
  unfold cutD HT.sIx
  simp
theorem cut_1n (a : D) (ds : List D) : cutD (a :: ds) (some 1) none = ds := by
  unfold cutD HT.sIx
  simp
theorem cut_n2 (a b : D) (ds : List D) : cutD (a :: b :: ds) none (some 2) = [a, b] := by
  unfold cutD HT.sIx
  simp
theorem cut_n1 (a : D) (ds : List D) : cutD (a :: ds) none (some 1) = [a] := by
  unfold cutD HT.sIx
  simp
/-- the pairs of a melt's row -/
def prs : List Str → List D → List D
  | w :: ws, d :: ds => .tup [.str w, d] :: prs ws ds
  | _, _ => []
theorem zip_prs : ∀ (ws : List Str) (ds : List D), List.zipWith (fun w d => D.tup [.str w, d]) ws ds = prs ws ds
  | [], _ => by unfold prs; rfl
  | _ :: _, [] => by unfold prs; rfl
  | w :: ws, d :: ds => by
    rw [List.zipWith_cons_cons, zip_prs ws ds]
    rfl
theorem prs_len : ∀ {ws : List Str} {ds : List D}, ds.length = ws.length → (prs ws ds).length = ws.length
  | [], [], _ => rfl
  | _ :: _, _ :: _, h => congrArg (· + 1) (prs_len (by simpa using h))
theorem prs_cut : ∀ {ws : List Str} {ds : List D} (l : List D), ds.length = ws.length → prs ws (ds ++ l) = prs ws ds
  | [], [], l, _ => by cases l <;> (unfold prs; rfl)
  | w :: ws, d :: ds, l, h => by
    show D.tup [.str w, d] :: prs ws (ds ++ l) = D.tup [.str w, d] :: prs ws ds
    rw [prs_cut l (by simpa using h)]
def sndD (d : D) : D := match d with
  | .tup [_, x] => x
  | d => d
theorem prs_snd : ∀ {ws : List Str} {ds : List D}, ds.length = ws.length → (prs ws ds).map sndD = ds
  | [], [], _ => rfl
  | _ :: _, d :: ds, h => congrArg (d :: ·) (prs_snd (by simpa using h))
theorem prs_mem : ∀ {ws : List Str} {ds : List D} {d : D}, d ∈ prs ws ds → ∃ w x, d = .tup [.str w, x] ∧ x ∈ ds ∧ w ∈ ws
  | [], _, d, h => by unfold prs at h; simp at h
  | _ :: _, [], d, h => by unfold prs at h; simp at h
  | w :: ws, x :: ds, d, h => by
    rcases List.mem_cons.mp (show d ∈ D.tup [.str w, x] :: prs ws ds from h) with e | e
    · exact ⟨w, x, e, List.mem_cons_self .., List.mem_cons_self ..⟩
    · obtain ⟨w', x', e1, e2, e3⟩ := prs_mem e
      exact ⟨w', x', e1, List.mem_cons_of_mem _ e2, List.mem_cons_of_mem _ e3⟩
theorem snoc_of {α : Type} {n : Nat} {xs : List α} (h : xs.length = n + 1) : ∃ ys l, xs = ys ++ [l] ∧ ys.length = n := by
  have hne : xs ≠ [] := by intro e; rw [e] at h; simp at h
  refine ⟨xs.dropLast, xs.getLast hne, (List.dropLast_concat_getLast hne).symm, by rw [List.length_dropLast, h]; rfl⟩
theorem mk_melt {w : Str} {ws : List Str} {xs : List D} {l : D} (h : xs.length = ws.length) : (Kd.melt w ws).mk (xs ++ [l]) = .tup [.str "melt", .str w, .tup (prs ws xs), l] := by
  show D.tup [.str "melt", .str w, .tup (List.zipWith (fun w d => D.tup [.str w, d]) ws (xs ++ [l])), (xs ++ [l]).getD ws.length .non] = _
  rw [zip_prs, prs_cut [l] h, ← h]
  have : (xs ++ [l]).getD xs.length .non = l := by
    rw [List.getD_eq_getElem?_getD, List.getElem?_append_right (Nat.le_refl _), Nat.sub_self]
    rfl
  rw [this]
/-- a comprehension over things that are told by others -/
theorem lcL_ts {α : Type} {own : List Nat} {g : FG} {fe : FE} (a b : α → D) (S0 : SS) : ∀ (ts : List α) (S : SS) (acc : List D), wipeS S own = S0 →
    (∀ t ∈ ts, ∃ S2, g (a t) S0 = some S2 ∧ (fe S2).wp fun o S4 => ∃ S5, force o S4 = some (b t, S5) ∧ wipeS S5 own = S0) →
    acc.length + ts.length ≤ line → ∃ S', lcL own g tTrue fe (ts.map a) S acc = .ok (acc ++ ts.map b) S' ∧ wipeS S' own = S0
  | [], S, acc, hS, _, _ => ⟨S, by simp [lcL], hS⟩
  | x :: ts, S, acc, hS, h, hl => by
    obtain ⟨S2, h1, h2⟩ := h x (List.mem_cons_self ..)
    have hr := fun y hy => h y (List.mem_cons_of_mem _ hy)
    simp only [List.length_cons] at hl
    obtain ⟨o, S4, e, S5, h3, h4⟩ := R.wp_ok' h2
    show ∃ S', (match g (a x) (wipeS S own) with
      | none => R.no
      | some S1 => (tTrue S1).bind fun b S2 => if b = true then (fe S2).bind fun o S3 => (match force o S3 with
          | some (x, S4) => if acc.length < line then lcL own g tTrue fe (ts.map a) S4 (acc ++ [x]) else .no
          | none => .no) else lcL own g tTrue fe (ts.map a) S2 acc) = _ ∧ wipeS S' own = S0
    rw [hS, h1]
    dsimp only
    have et : tTrue S2 = .ok true S2 := rfl
    rw [et, bind_ok, if_pos rfl, e, bind_ok, h3]
    dsimp only
    rw [if_pos (Nat.lt_of_lt_of_le (show acc.length < acc.length + (ts.length + 1) by omega) hl)]
    obtain ⟨S', e1, e2⟩ := lcL_ts a b S0 ts S5 (acc ++ [b x]) h4 hr (by rw [List.length_append, List.length_singleton]; omega)
    exact ⟨S', by rw [e1]; simp, e2⟩
theorem mLc_ts {α : Type} {own : List Nat} {fi : FI} {g : FG} {fe : FE} {S S1 : SS} {ts : List α} (a b : α → D) (h : fi S = .ok (ts.map a) S1)
    (hs : ∀ t ∈ ts, ∃ S2, g (a t) (wipeS S1 own) = some S2 ∧ (fe S2).wp fun o S4 => ∃ S5, force o S4 = some (b t, S5) ∧ wipeS S5 own = wipeS S1 own)
    (hl : ts.length ≤ line) : mLc own fi g tTrue fe S = .ok (.lst (ts.map b)) (restS S1 S1 own) := by
  unfold mLc
  rw [h, bind_ok]
  obtain ⟨S', e1, e2⟩ := lcL_ts a b (wipeS S1 own) ts S1 [] rfl hs (by simpa using hl)
  rw [e1, bind_ok, List.nil_append]
  rw [← restS_wipe S1 S', e2, restS_wipe]
def Kd.nm : Kd → Str
  | .num _ => "number"
  | .tru _ => "truth"
  | .nam _ => "name"
  | .rai _ => "raise"
  | .do_ _ => "do"
  | .let_ _ => "let"
  | .pick _ => "pick"
  | .mark _ => "mark"
  | .many => "many"
  | .iff => "if"
  | .parts => "parts"
  | .loop _ _ => "loop"
  | .try_ _ => "try"
  | .call _ => "call"
  | .melt _ _ => "melt"
theorem atI_0 (x : D) (xs : List D) : atI (x :: xs) 0 = some x := atI_ok (by decide) rfl
theorem mk_0 (k : Kd) (ds : List D) : ixD (k.mk ds) (.int 0) = some (.d (.str k.nm)) := by
  cases k <;> simp [Kd.mk, Kd.nm, atI_0]
theorem nm_melt {k : Kd} (h : ∀ w ws, k ≠ .melt w ws) : (k.nm == ("melt" : Str)) = false := by
  cases k with
  | melt w ws => exact absurd rfl (h w ws)
  | _ => simp [Kd.nm]
theorem thw_eq {k : Kd} (h : ∀ w ws, k ≠ .melt w ws) (xs : List Tr) : k.thw xs = .nd k xs := by
  cases k with
  | melt w ws => exact absurd rfl (h w ws)
  | _ => rfl
theorem ds_ths (xs : List Tr) : Tr.ds (Tr.ths xs) = xs.map fun t => t.th.d := by
  rw [ds_map, ths_map, List.map_map]
  rfl
theorem ths_len (xs : List Tr) : (Tr.ths xs).length = xs.length := by rw [ths_map, List.length_map]
theorem oks_app {xs ys : List Tr} (h : Tr.oks (xs ++ ys)) : Tr.oks xs ∧ Tr.oks ys := ⟨oks_of fun x hx => oks_mem h x (List.mem_append_left _ hx), oks_of fun x hx => oks_mem h x (List.mem_append_right _ hx)⟩
theorem prs_zip : ∀ (ws : List Str) (ys : List Tr), prs ws (Tr.ds ys) = (List.zip ws ys).map fun p => D.tup [.str p.1, p.2.d]
  | [], _ => by unfold prs; rfl
  | _ :: _, [] => by unfold Tr.ds prs; rfl
  | w :: ws, y :: ys => by
    show D.tup [.str w, y.d] :: prs ws (Tr.ds ys) = _
    rw [prs_zip ws ys]
    rfl
theorem zip_snd {β : Type} (f : Tr → β) : ∀ {ws : List Str} {ys : List Tr}, ys.length = ws.length → ((List.zip ws ys).map fun p => f p.2) = ys.map f
  | [], [], _ => rfl
  | w :: ws, y :: ys, h => congrArg (f y :: ·) (zip_snd f (by simpa using h))
theorem zip_mem {ws : List Str} {ys : List Tr} {p : Str × Tr} (h : p ∈ List.zip ws ys) : p.2 ∈ ys := (List.of_mem_zip (a := p.1) (b := p.2) h).2
theorem szs_app (xs ys : List Tr) : Tr.szs (xs ++ ys) = Tr.szs xs + Tr.szs ys := by
  induction xs with
  | nil => show Tr.szs ys = 0 + _; omega
  | cons x xs ih =>
    show x.sz + Tr.szs (xs ++ ys) = x.sz + Tr.szs xs + _
    rw [ih]
    omega
theorem lss_app (xs ys : List Tr) : Tr.lss (xs ++ ys) = Tr.lss xs ++ Tr.lss ys := by
  induction xs with
  | nil => rfl
  | cons x xs ih =>
    show x.ls ++ Tr.lss (xs ++ ys) = (x.ls ++ Tr.lss xs) ++ _
    rw [ih, List.append_assoc]
theorem sz_pos (t : Tr) : 1 ≤ t.sz := by
  cases t with
  | nd k xs => show 1 ≤ Tr.szs xs + 1; omega
theorem len_szs : ∀ xs : List Tr, xs.length ≤ Tr.szs xs
  | [] => Nat.le_refl _
  | x :: xs => by
    have h1 := sz_pos x
    have h2 := len_szs xs
    show xs.length + 1 ≤ x.sz + Tr.szs xs
    omega
mutual
theorem ls_len : ∀ t : Tr, t.ls.length = t.sz
  | .nd k xs => congrArg (· + 1) (lss_len xs)
theorem lss_len : ∀ xs : List Tr, (Tr.lss xs).length = Tr.szs xs
  | [] => rfl
  | x :: xs => by
    show (x.ls ++ Tr.lss xs).length = x.sz + Tr.szs xs
    rw [List.length_append, ls_len x, lss_len xs]
end
theorem ths_oks {xs : List Tr} (h : ∀ x ∈ xs, x.th.ok) : Tr.oks (Tr.ths xs) := oks_of fun y hy => by
  rw [ths_map] at hy
  obtain ⟨x, hx, rfl⟩ := List.mem_map.mp hy
  exact h x hx
theorem th_ok : ∀ (k : Nat) (t : Tr), t.dep ≤ k → t.ok → t.th.ok
  | 0, .nd _ xs, h, _ => absurd (show Tr.deps xs + 1 ≤ 0 from h) (by omega)
  | c + 1, .nd k xs, h, hok => by
    obtain ⟨ha, ho⟩ : k.ar xs.length ∧ Tr.oks xs := hok
    have hd : Tr.deps xs ≤ c := Nat.le_of_succ_le_succ (show Tr.deps xs + 1 ≤ c + 1 from h)
    have ihx : Tr.oks (Tr.ths xs) := ths_oks fun x hx => th_ok c x (deps_mem hd x hx) (oks_mem ho x hx)
    show (k.thw (Tr.ths xs)).ok
    by_cases hm : ∃ w ws, k = .melt w ws
    · obtain ⟨w, ws, rfl⟩ := hm
      obtain ⟨h1, h2⟩ : xs.length = ws.length + 1 ∧ ws.length ≤ 1000 := ha
      exact ⟨by show (Tr.ths xs).dropLast.length ≤ 1000; rw [List.length_dropLast, ths_len]; omega, oks_of fun x hx => oks_mem ihx x (List.dropLast_subset _ hx)⟩
    · rw [thw_eq fun w ws e => hm ⟨w, ws, e⟩]
      exact ⟨by rw [ths_len]; exact ha, ihx⟩
theorem szs_drop (xs : List Tr) : Tr.szs xs.dropLast ≤ Tr.szs xs := by
  cases h : xs with
  | nil => exact Nat.le_refl _
  | cons x ys =>
    rw [← h]
    have hne : xs ≠ [] := by rw [h]; simp
    have := congrArg Tr.szs (List.dropLast_concat_getLast hne)
    rw [szs_app] at this
    omega
theorem tdeps_drop (xs : List Tr) : Tr.deps xs.dropLast ≤ Tr.deps xs := tdeps_of fun x hx => deps_mem (Nat.le_refl _) x (List.dropLast_subset _ hx)
theorem th_le : ∀ (k : Nat) (t : Tr), t.dep ≤ k → t.th.sz ≤ t.sz ∧ t.th.dep ≤ t.dep
  | 0, .nd _ xs, h => absurd (show Tr.deps xs + 1 ≤ 0 from h) (by omega)
  | c + 1, .nd k xs, h => by
    have hd : Tr.deps xs ≤ c := Nat.le_of_succ_le_succ (show Tr.deps xs + 1 ≤ c + 1 from h)
    have key : ∀ zs : List Tr, (∀ x ∈ zs, x.dep ≤ c) → Tr.szs (Tr.ths zs) ≤ Tr.szs zs ∧ Tr.deps (Tr.ths zs) ≤ Tr.deps zs := by
      intro zs
      induction zs with
      | nil => exact fun _ => ⟨Nat.le_refl _, Nat.le_refl _⟩
      | cons z zs ih =>
        intro hz
        have h1 := th_le c z (hz z (List.mem_cons_self ..))
        have h2 := ih fun x hx => hz x (List.mem_cons_of_mem _ hx)
        refine ⟨?_, ?_⟩
        · show z.th.sz + Tr.szs (Tr.ths zs) ≤ z.sz + Tr.szs zs
          omega
        · show max z.th.dep (Tr.deps (Tr.ths zs)) ≤ max z.dep (Tr.deps zs)
          omega
    have hk := key xs (deps_mem hd)
    show (k.thw (Tr.ths xs)).sz ≤ Tr.szs xs + 1 ∧ (k.thw (Tr.ths xs)).dep ≤ Tr.deps xs + 1
    by_cases hm : ∃ w ws, k = .melt w ws
    · obtain ⟨w, ws, rfl⟩ := hm
      have h1 := szs_drop (Tr.ths xs)
      have h2 := tdeps_drop (Tr.ths xs)
      refine ⟨?_, ?_⟩
      · show Tr.szs (Tr.ths xs).dropLast + 1 ≤ _
        omega
      · show Tr.deps (Tr.ths xs).dropLast + 1 ≤ _
        omega
    · rw [thw_eq fun w ws e => hm ⟨w, ws, e⟩]
      refine ⟨?_, ?_⟩
      · show Tr.szs (Tr.ths xs) + 1 ≤ _
        omega
      · show Tr.deps (Tr.ths xs) + 1 ≤ _
        omega
theorem parts_of_eq (n : Nat) (k : Kd) (ds : List D) (h : k.ar ds.length) : den (n + 1) "parts_of" [.d (k.mk ds)] = .ok (.lst ds) [some (.d (k.mk ds))] := by
  refine eq_of_wp ?_
  rw [den_parts_of]
  refine run_wp rfl ?_
  unfold b_parts_of
  cases k with
  | num i => have h : ds.length = 0 := h; obtain rfl := List.length_eq_zero_iff.mp h; simp -dsimp [Kd.mk, List.replicate, inD_t4, inD_t2, cut_2n, cut_1n, cut_n2, cut_n1]
  | tru b => have h : ds.length = 0 := h; obtain rfl := List.length_eq_zero_iff.mp h; simp -dsimp [Kd.mk, List.replicate, inD_t4, inD_t2, cut_2n, cut_1n, cut_n2, cut_n1]
  | nam w => have h : ds.length = 0 := h; obtain rfl := List.length_eq_zero_iff.mp h; simp -dsimp [Kd.mk, List.replicate, inD_t4, inD_t2, cut_2n, cut_1n, cut_n2, cut_n1]
  | rai w => have h : ds.length = 0 := h; obtain rfl := List.length_eq_zero_iff.mp h; simp -dsimp [Kd.mk, List.replicate, inD_t4, inD_t2, cut_2n, cut_1n, cut_n2, cut_n1]
  | do_ w => have h : ds.length = 2 := h; obtain ⟨a, b, rfl⟩ := len2 h; simp -dsimp [Kd.mk, List.replicate, inD_t4, inD_t2, cut_2n, cut_1n, cut_n2, cut_n1]
  | let_ w => have h : ds.length = 2 := h; obtain ⟨a, b, rfl⟩ := len2 h; simp -dsimp [Kd.mk, List.replicate, inD_t4, inD_t2, cut_2n, cut_1n, cut_n2, cut_n1]
  | try_ w => have h : ds.length = 2 := h; obtain ⟨a, b, rfl⟩ := len2 h; simp -dsimp [Kd.mk, List.replicate, inD_t4, inD_t2, cut_2n, cut_1n, cut_n2, cut_n1]
  | pick i => have h : ds.length = 1 := h; obtain ⟨a, rfl⟩ := len1 h; simp -dsimp [Kd.mk, List.replicate, inD_t4, inD_t2, cut_2n, cut_1n, cut_n2, cut_n1]
  | mark i => have h : ds.length = 1 := h; obtain ⟨a, rfl⟩ := len1 h; simp -dsimp [Kd.mk, List.replicate, inD_t4, inD_t2, cut_2n, cut_1n, cut_n2, cut_n1]
  | many => have h : ds.length = 1 := h; obtain ⟨a, rfl⟩ := len1 h; simp -dsimp [Kd.mk, List.replicate, inD_t4, inD_t2, cut_2n, cut_1n, cut_n2, cut_n1]
  | iff => have h : ds.length = 3 := h; obtain ⟨a, b, c, rfl⟩ := len3 h; simp -dsimp [Kd.mk, List.replicate, inD_t4, inD_t2, cut_2n, cut_1n, cut_n2, cut_n1]
  | loop w w2 => have h : ds.length = 3 := h; obtain ⟨a, b, c, rfl⟩ := len3 h; simp -dsimp [Kd.mk, List.replicate, inD_t4, inD_t2, cut_2n, cut_1n, cut_n2, cut_n1]
  | parts => have h : ds.length ≤ 1000 := h; simp -dsimp [Kd.mk, List.replicate, inD_t4, inD_t2, cut_2n, cut_1n, cut_n2, cut_n1]
  | call w => have h : ds.length ≤ 1000 := h; simp -dsimp [Kd.mk, List.replicate, inD_t4, inD_t2, cut_2n, cut_1n, cut_n2, cut_n1]
  | melt w ws =>
    obtain ⟨h1, h2⟩ : ds.length = ws.length + 1 ∧ ws.length ≤ 1000 := h
    obtain ⟨xs, l, rfl, hx⟩ := snoc_of h1
    rw [mk_melt hx]
    have pl := prs_len hx
    obtain ⟨T, hT⟩ : ∃ T : D, T = .tup [.str "melt", .str w, .tup (prs ws xs), l] := ⟨_, rfl⟩
    have lc : mLc [1, 2] (iSeq (eM (mBin ixD (eN 0) (eC (.int 2))))) (gT 2 (gsCons (gN 1) (gsCons (gN 2) gsNil))) tTrue (eN 2) [some (.d (.tup [.str "melt", .str w, .tup (prs ws xs), l])), none, none] = .ok (.lst xs) [some (.d (.tup [.str "melt", .str w, .tup (prs ws xs), l])), none, none] := by
      have e2 := mLc_mapP (own := [1, 2]) (fi := iSeq (eM (mBin ixD (eN 0) (eC (.int 2))))) (g := gT 2 (gsCons (gN 1) (gsCons (gN 2) gsNil))) (fe := eN 2) (S := [some (.d (.tup [.str "melt", .str w, .tup (prs ws xs), l])), none, none]) (S1 := [some (.d (.tup [.str "melt", .str w, .tup (prs ws xs), l])), none, none]) (ds := prs ws xs) sndD (by simp -dsimp) (by
        intro d hd
        obtain ⟨w', x', rfl, _, _⟩ := prs_mem hd
        refine ⟨[some (.d (.tup [.str "melt", .str w, .tup (prs ws xs), l])), some (.d (.str w')), some (.d x')], rfl, ?_⟩
        simp -dsimp [wipeS, sndD]) (by rw [pl]; show ws.length ≤ 16777216; omega)
      rw [e2, prs_snd hx]
      rfl
    simp -dsimp [List.replicate, inD_t4, inD_t2, lc, show xs.length + 1 ≤ 16777216 by omega]
theorem with_parts_eq (n : Nat) (k : Kd) (ds es : List D) (h : k.ar ds.length) (h2 : k.ar es.length) (hm : ∀ w ws, k ≠ .melt w ws) {Q : M → List (Option M) → Prop} (hq : ∀ fin, fin.length = 2 → Q (.d (k.mk es)) fin) :
    (den (n + 1) "with_parts" [.d (k.mk ds), .d (.lst es)]).wp Q := by
  rw [den_with_parts]
  refine run_wp rfl ?_
  unfold b_with_parts
  cases k with
  | num i => obtain rfl := List.length_eq_zero_iff.mp (show ds.length = 0 from h); obtain rfl := List.length_eq_zero_iff.mp (show es.length = 0 from h2); simp -dsimp [Kd.mk, List.replicate, inD_t4, inD_t2, cut_2n, cut_1n, cut_n2, cut_n1]; exact hq _ rfl
  | tru b => obtain rfl := List.length_eq_zero_iff.mp (show ds.length = 0 from h); obtain rfl := List.length_eq_zero_iff.mp (show es.length = 0 from h2); simp -dsimp [Kd.mk, List.replicate, inD_t4, inD_t2, cut_2n, cut_1n, cut_n2, cut_n1]; exact hq _ rfl
  | nam w => obtain rfl := List.length_eq_zero_iff.mp (show ds.length = 0 from h); obtain rfl := List.length_eq_zero_iff.mp (show es.length = 0 from h2); simp -dsimp [Kd.mk, List.replicate, inD_t4, inD_t2, cut_2n, cut_1n, cut_n2, cut_n1]; exact hq _ rfl
  | rai w => obtain rfl := List.length_eq_zero_iff.mp (show ds.length = 0 from h); obtain rfl := List.length_eq_zero_iff.mp (show es.length = 0 from h2); simp -dsimp [Kd.mk, List.replicate, inD_t4, inD_t2, cut_2n, cut_1n, cut_n2, cut_n1]; exact hq _ rfl
  | do_ w => obtain ⟨a, b, rfl⟩ := len2 (show ds.length = 2 from h); obtain ⟨x, y, rfl⟩ := len2 (show es.length = 2 from h2); simp -dsimp [Kd.mk, List.replicate, inD_t4, inD_t2, cut_2n, cut_1n, cut_n2, cut_n1]; exact hq _ rfl
  | let_ w => obtain ⟨a, b, rfl⟩ := len2 (show ds.length = 2 from h); obtain ⟨x, y, rfl⟩ := len2 (show es.length = 2 from h2); simp -dsimp [Kd.mk, List.replicate, inD_t4, inD_t2, cut_2n, cut_1n, cut_n2, cut_n1]; exact hq _ rfl
  | try_ w => obtain ⟨a, b, rfl⟩ := len2 (show ds.length = 2 from h); obtain ⟨x, y, rfl⟩ := len2 (show es.length = 2 from h2); simp -dsimp [Kd.mk, List.replicate, inD_t4, inD_t2, cut_2n, cut_1n, cut_n2, cut_n1]; exact hq _ rfl
  | pick i => obtain ⟨a, rfl⟩ := len1 (show ds.length = 1 from h); obtain ⟨x, rfl⟩ := len1 (show es.length = 1 from h2); simp -dsimp [Kd.mk, List.replicate, inD_t4, inD_t2, cut_2n, cut_1n, cut_n2, cut_n1]; exact hq _ rfl
  | mark i => obtain ⟨a, rfl⟩ := len1 (show ds.length = 1 from h); obtain ⟨x, rfl⟩ := len1 (show es.length = 1 from h2); simp -dsimp [Kd.mk, List.replicate, inD_t4, inD_t2, cut_2n, cut_1n, cut_n2, cut_n1]; exact hq _ rfl
  | many => obtain ⟨a, rfl⟩ := len1 (show ds.length = 1 from h); obtain ⟨x, rfl⟩ := len1 (show es.length = 1 from h2); simp -dsimp [Kd.mk, List.replicate, inD_t4, inD_t2, cut_2n, cut_1n, cut_n2, cut_n1]; exact hq _ rfl
  | iff => obtain ⟨a, b, c, rfl⟩ := len3 (show ds.length = 3 from h); obtain ⟨x, y, z, rfl⟩ := len3 (show es.length = 3 from h2); simp -dsimp [Kd.mk, List.replicate, inD_t4, inD_t2, cut_2n, cut_1n, cut_n2, cut_n1]; exact hq _ rfl
  | loop w w2 => obtain ⟨a, b, c, rfl⟩ := len3 (show ds.length = 3 from h); obtain ⟨x, y, z, rfl⟩ := len3 (show es.length = 3 from h2); simp -dsimp [Kd.mk, List.replicate, inD_t4, inD_t2, cut_2n, cut_1n, cut_n2, cut_n1]; exact hq _ rfl
  | parts => have h2 : es.length ≤ 1000 := h2; simp -dsimp [Kd.mk, List.replicate, inD_t4, inD_t2, cut_2n, cut_1n, cut_n2, cut_n1]; exact hq _ rfl
  | call w => have h2 : es.length ≤ 1000 := h2; simp -dsimp [Kd.mk, List.replicate, inD_t4, inD_t2, cut_2n, cut_1n, cut_n2, cut_n1]; exact hq _ rfl
  | melt w ws => exact absurd rfl (hm w ws)
theorem thawed_eq : ∀ (k n : Nat) (t : Tr), t.ok → t.dep ≤ k → den (n + k + 1) "thawed" [.d t.d] = .ok (.d t.th.d) [some (.d t.d)] := by
  intro k
  induction k with
  | zero =>
    intro n t _ h
    cases t with
    | nd k xs => exact absurd (show Tr.deps xs + 1 ≤ 0 from h) (by omega)
  | succ c ih =>
    intro n t h hd
    cases t with
    | nd k xs =>
      obtain ⟨ha, ho⟩ : k.ar xs.length ∧ Tr.oks xs := h
      have hd : Tr.deps xs ≤ c := Nat.le_of_succ_le_succ (show Tr.deps xs + 1 ≤ c + 1 from hd)
      have ihx : ∀ x ∈ xs, den (n + (c + 1)) "thawed" [.d x.d] = .ok (.d x.th.d) [some (.d x.d)] := fun x hx => ih n x (oks_mem ho x hx) (deps_mem hd x hx)
      have al : xs.length ≤ 1001 := by
        cases k <;> first | (have : xs.length = 0 := ha; omega) | (have : xs.length = 1 := ha; omega) | (have : xs.length = 2 := ha; omega) | (have : xs.length = 3 := ha; omega) | (have : xs.length ≤ 1000 := ha; omega) | (obtain ⟨h1, h2⟩ := ha; omega)
      refine eq_of_wp ?_
      rw [den_thawed]
      refine run_wp rfl ?_
      unfold b_thawed
      have td : (Tr.nd k xs).d = k.mk (Tr.ds xs) := rfl
      have tt : (Tr.nd k xs).th = k.thw (Tr.ths xs) := rfl
      rw [td, tt]
      obtain ⟨N, hN⟩ : ∃ N, N + 1 = n + (c + 1) := ⟨n + c, rfl⟩
      rw [← hN] at ihx ⊢
      have l16 : xs.length ≤ line := Nat.le_trans al (by decide)
      by_cases hm : ∃ w ws, k = .melt w ws
      · obtain ⟨w, ws, rfl⟩ := hm
        obtain ⟨h1, h2⟩ : xs.length = ws.length + 1 ∧ ws.length ≤ 1000 := ha
        obtain ⟨ys, l, rfl, hy⟩ := snoc_of h1
        have dy : Tr.ds (ys ++ [l]) = Tr.ds ys ++ [l.d] := ds_app ys [l]
        have er : ((Kd.melt w ws).thw (Tr.ths (ys ++ [l]))).d = .tup [.str "call", .str w, .tup (ys.map fun t => t.th.d)] := by
          show (Tr.nd (.call w) (Tr.ths (ys ++ [l])).dropLast).d = _
          have : (Tr.ths (ys ++ [l])).dropLast = Tr.ths ys := by
            rw [ths_map, List.map_append, ths_map]
            exact List.dropLast_concat
          rw [this]
          show D.tup [.str "call", .str w, .tup (Tr.ds (Tr.ths ys))] = _
          rw [ds_ths]
        rw [er, dy, mk_melt (by rw [ds_len]; exact hy)]
        have lc : mLc [2, 1] (iSeq (eM (mBin ixD (eN 0) (eC (.int 2))))) (gT 2 (gsCons (gN 2) (gsCons (gN 1) gsNil))) tTrue (eM (mCall (den (N + 1) "thawed") (aCons (eN 1) aNil))) [some (.d (.tup [.str "melt", .str w, .tup (prs ws (Tr.ds ys)), l.d])), none, none] = .ok (.lst (ys.map fun t => t.th.d)) [some (.d (.tup [.str "melt", .str w, .tup (prs ws (Tr.ds ys)), l.d])), none, none] := by
          have e2 := mLc_ts (own := [2, 1]) (fi := iSeq (eM (mBin ixD (eN 0) (eC (.int 2))))) (g := gT 2 (gsCons (gN 2) (gsCons (gN 1) gsNil))) (fe := eM (mCall (den (N + 1) "thawed") (aCons (eN 1) aNil))) (S := [some (.d (.tup [.str "melt", .str w, .tup (prs ws (Tr.ds ys)), l.d])), none, none]) (S1 := [some (.d (.tup [.str "melt", .str w, .tup (prs ws (Tr.ds ys)), l.d])), none, none]) (ts := List.zip ws ys) (fun p => .tup [.str p.1, p.2.d]) (fun p => p.2.th.d) (by rw [← prs_zip]; simp -dsimp) (by
            intro p hp
            refine ⟨[some (.d (.tup [.str "melt", .str w, .tup (prs ws (Tr.ds ys)), l.d])), some (.d p.2.d), some (.d (.str p.1))], rfl, ?_⟩
            simp -dsimp [wipeS, ihx p.2 (List.mem_append_left _ (zip_mem hp))]) (by rw [List.length_zip]; show min ws.length ys.length ≤ 16777216; omega)
          rw [e2, zip_snd (fun t => t.th.d) hy]
          rfl
        simp -dsimp [List.replicate, lc]
      · have hm : ∀ w ws, k ≠ .melt w ws := fun w ws e => hm ⟨w, ws, e⟩
        have nm := nm_melt hm
        have m0 := mk_0 k (Tr.ds xs)
        have po := parts_of_eq N k (Tr.ds xs) (by rw [ds_len]; exact ha)
        have lc : mLc [1] (iSeq (eM (mCall (den (N + 1) "parts_of") (aCons (eN 0) aNil)))) (gN 1) tTrue (eM (mCall (den (N + 1) "thawed") (aCons (eN 1) aNil))) [some (.d (k.mk (Tr.ds xs))), none, none] = .ok (.lst (xs.map fun t => t.th.d)) [some (.d (k.mk (Tr.ds xs))), none, none] := by
          have e2 := mLc_ts (own := [1]) (fi := iSeq (eM (mCall (den (N + 1) "parts_of") (aCons (eN 0) aNil)))) (g := gN 1) (fe := eM (mCall (den (N + 1) "thawed") (aCons (eN 1) aNil))) (S := [some (.d (k.mk (Tr.ds xs))), none, none]) (S1 := [some (.d (k.mk (Tr.ds xs))), none, none]) (ts := xs) Tr.d (fun t => t.th.d) (by rw [← ds_map]; simp -dsimp [po]) (by
            intro x hx
            refine ⟨[some (.d (k.mk (Tr.ds xs))), some (.d x.d), none], rfl, ?_⟩
            simp -dsimp [wipeS, ihx x hx]) l16
          rw [e2]
          rfl
        rw [thw_eq hm]
        have ed : (Tr.nd k (Tr.ths xs)).d = k.mk (xs.map fun t => t.th.d) := by
          show k.mk (Tr.ds (Tr.ths xs)) = _
          rw [ds_ths]
        rw [ed]
        simp -dsimp [List.replicate, m0, nm, lc]
        refine with_parts_eq N k (Tr.ds xs) (xs.map fun t => t.th.d) (by rw [ds_len]; exact ha) (by rw [List.length_map]; exact ha) hm fun fin hf => ?_
        obtain ⟨f1, f2, rfl⟩ := len2 hf
        simp -dsimp
theorem lp_eq (n : Nat) (k : Kd) (ds : List D) (h : k.ar ds.length) : den (n + 1) "_law_parts" [.d (k.mk ds)] = .ok (.lst ds) [some (.d (k.mk ds))] := by
  refine eq_of_wp ?_
  rw [den__law_parts]
  refine run_wp rfl ?_
  unfold b__law_parts
  cases k with
  | num i => have h : ds.length = 0 := h; obtain rfl := List.length_eq_zero_iff.mp h; simp -dsimp [Kd.mk, List.replicate, inD_t4, inD_t2, cut_2n, cut_1n, cut_n2, cut_n1]
  | tru b => have h : ds.length = 0 := h; obtain rfl := List.length_eq_zero_iff.mp h; simp -dsimp [Kd.mk, List.replicate, inD_t4, inD_t2, cut_2n, cut_1n, cut_n2, cut_n1]
  | nam w => have h : ds.length = 0 := h; obtain rfl := List.length_eq_zero_iff.mp h; simp -dsimp [Kd.mk, List.replicate, inD_t4, inD_t2, cut_2n, cut_1n, cut_n2, cut_n1]
  | rai w => have h : ds.length = 0 := h; obtain rfl := List.length_eq_zero_iff.mp h; simp -dsimp [Kd.mk, List.replicate, inD_t4, inD_t2, cut_2n, cut_1n, cut_n2, cut_n1]
  | do_ w => have h : ds.length = 2 := h; obtain ⟨a, b, rfl⟩ := len2 h; simp -dsimp [Kd.mk, List.replicate, inD_t4, inD_t2, cut_2n, cut_1n, cut_n2, cut_n1]
  | let_ w => have h : ds.length = 2 := h; obtain ⟨a, b, rfl⟩ := len2 h; simp -dsimp [Kd.mk, List.replicate, inD_t4, inD_t2, cut_2n, cut_1n, cut_n2, cut_n1]
  | try_ w => have h : ds.length = 2 := h; obtain ⟨a, b, rfl⟩ := len2 h; simp -dsimp [Kd.mk, List.replicate, inD_t4, inD_t2, cut_2n, cut_1n, cut_n2, cut_n1]
  | pick i => have h : ds.length = 1 := h; obtain ⟨a, rfl⟩ := len1 h; simp -dsimp [Kd.mk, List.replicate, inD_t4, inD_t2, cut_2n, cut_1n, cut_n2, cut_n1]
  | mark i => have h : ds.length = 1 := h; obtain ⟨a, rfl⟩ := len1 h; simp -dsimp [Kd.mk, List.replicate, inD_t4, inD_t2, cut_2n, cut_1n, cut_n2, cut_n1]
  | many => have h : ds.length = 1 := h; obtain ⟨a, rfl⟩ := len1 h; simp -dsimp [Kd.mk, List.replicate, inD_t4, inD_t2, cut_2n, cut_1n, cut_n2, cut_n1]
  | iff => have h : ds.length = 3 := h; obtain ⟨a, b, c, rfl⟩ := len3 h; simp -dsimp [Kd.mk, List.replicate, inD_t4, inD_t2, cut_2n, cut_1n, cut_n2, cut_n1]
  | loop w w2 => have h : ds.length = 3 := h; obtain ⟨a, b, c, rfl⟩ := len3 h; simp -dsimp [Kd.mk, List.replicate, inD_t4, inD_t2, cut_2n, cut_1n, cut_n2, cut_n1]
  | parts => have h : ds.length ≤ 1000 := h; simp -dsimp [Kd.mk, List.replicate, inD_t4, inD_t2, cut_2n, cut_1n, cut_n2, cut_n1]
  | call w => have h : ds.length ≤ 1000 := h; simp -dsimp [Kd.mk, List.replicate, inD_t4, inD_t2, cut_2n, cut_1n, cut_n2, cut_n1]
  | melt w ws =>
    obtain ⟨h1, h2⟩ : ds.length = ws.length + 1 ∧ ws.length ≤ 1000 := h
    obtain ⟨xs, l, rfl, hx⟩ := snoc_of h1
    rw [mk_melt hx]
    have pl := prs_len hx
    have lc : mLc [2] (iSeq (eM (mBin ixD (eN 0) (eC (.int 2))))) (gN 2) tTrue (eM (mBin ixD (eN 2) (eC (.int 1)))) [some (.d (.tup [.str "melt", .str w, .tup (prs ws xs), l])), some (.d (.str "melt")), none] = .ok (.lst xs) [some (.d (.tup [.str "melt", .str w, .tup (prs ws xs), l])), some (.d (.str "melt")), none] := by
      have e2 := mLc_mapP (own := [2]) (fi := iSeq (eM (mBin ixD (eN 0) (eC (.int 2))))) (g := gN 2) (fe := eM (mBin ixD (eN 2) (eC (.int 1)))) (S := [some (.d (.tup [.str "melt", .str w, .tup (prs ws xs), l])), some (.d (.str "melt")), none]) (S1 := [some (.d (.tup [.str "melt", .str w, .tup (prs ws xs), l])), some (.d (.str "melt")), none]) (ds := prs ws xs) sndD (by simp -dsimp) (by
        intro d hd
        obtain ⟨w', x', rfl, _, _⟩ := prs_mem hd
        refine ⟨[some (.d (.tup [.str "melt", .str w, .tup (prs ws xs), l])), some (.d (.str "melt")), some (.d (.tup [.str w', x']))], rfl, ?_⟩
        simp -dsimp [wipeS, sndD]) (by rw [pl]; show ws.length ≤ 16777216; omega)
      rw [e2, prs_snd hx]
      rfl
    simp -dsimp [List.replicate, inD_t4, inD_t2, lc, show xs.length + 1 ≤ 16777216 by omega]
theorem cut_last (xs : List D) (l : D) : cutD (xs ++ [l]) none (some (-1)) = xs := by
  unfold cutD HT.sIx
  have : ((-1 : Int) + ((xs ++ [l]).length : Int)).toNat = xs.length := by rw [List.length_append, List.length_singleton]; omega
  simp only [this]
  simp
theorem lth_ex : ∀ (k n : Nat) (t : Tr), t.ok → t.dep ≤ k → ∃ f, den (n + k + 1) "_law_thawed" [.d t.d] = .ok (.d t.th.d) [f] := by
  intro k
  induction k with
  | zero =>
    intro n t _ h
    cases t with
    | nd k xs => exact absurd (show Tr.deps xs + 1 ≤ 0 from h) (by omega)
  | succ c ih =>
    intro n t h hd
    cases t with
    | nd k xs =>
      obtain ⟨ha, ho⟩ : k.ar xs.length ∧ Tr.oks xs := h
      have hd : Tr.deps xs ≤ c := Nat.le_of_succ_le_succ (show Tr.deps xs + 1 ≤ c + 1 from hd)
      have ihx : ∀ x ∈ xs, ∃ f, den (n + (c + 1)) "_law_thawed" [.d x.d] = .ok (.d x.th.d) [f] := fun x hx => ih n x (oks_mem ho x hx) (deps_mem hd x hx)
      have al : xs.length ≤ 1001 := by
        cases k <;> first | (have : xs.length = 0 := ha; omega) | (have : xs.length = 1 := ha; omega) | (have : xs.length = 2 := ha; omega) | (have : xs.length = 3 := ha; omega) | (have : xs.length ≤ 1000 := ha; omega) | (obtain ⟨h1, h2⟩ := ha; omega)
      suffices hw : (den (n + (c + 1) + 1) "_law_thawed" [.d (Tr.nd k xs).d]).wp fun r fin => r = .d (Tr.nd k xs).th.d ∧ ∃ f, fin = [f] by
        obtain ⟨a, S, e, rfl, f, rfl⟩ := CR.wp_ok hw
        exact ⟨f, e⟩
      rw [den__law_thawed]
      refine run_wp rfl ?_
      unfold b__law_thawed
      have td : (Tr.nd k xs).d = k.mk (Tr.ds xs) := rfl
      have tt : (Tr.nd k xs).th = k.thw (Tr.ths xs) := rfl
      rw [td, tt]
      obtain ⟨N, hN⟩ : ∃ N, N + 1 = n + (c + 1) := ⟨n + c, rfl⟩
      rw [← hN] at ihx ⊢
      have l16 : xs.length ≤ line := Nat.le_trans al (by decide)
      have m0 := mk_0 k (Tr.ds xs)
      have po := lp_eq N k (Tr.ds xs) (by rw [ds_len]; exact ha)
      have lc : mLc [3] (iSeq (eM (mCall (den (N + 1) "_law_parts") (aCons (eN 0) aNil)))) (gN 3) tTrue (eM (mCall (den (N + 1) "_law_thawed") (aCons (eN 3) aNil))) [some (.d (k.mk (Tr.ds xs))), some (.d (.str k.nm)), none, none] = .ok (.lst (Tr.ds (Tr.ths xs))) [some (.d (k.mk (Tr.ds xs))), some (.d (.str k.nm)), none, none] := by
        have e2 := mLc_ts (own := [3]) (fi := iSeq (eM (mCall (den (N + 1) "_law_parts") (aCons (eN 0) aNil)))) (g := gN 3) (fe := eM (mCall (den (N + 1) "_law_thawed") (aCons (eN 3) aNil))) (S := [some (.d (k.mk (Tr.ds xs))), some (.d (.str k.nm)), none, none]) (S1 := [some (.d (k.mk (Tr.ds xs))), some (.d (.str k.nm)), none, none]) (ts := xs) Tr.d (fun t => t.th.d) (by rw [← ds_map]; simp -dsimp [po]) (by
          intro x hx
          obtain ⟨f, hf⟩ := ihx x hx
          refine ⟨[some (.d (k.mk (Tr.ds xs))), some (.d (.str k.nm)), none, some (.d x.d)], rfl, ?_⟩
          simp -dsimp [wipeS, hf]) l16
        rw [e2, ds_ths]
        rfl
      have hl := ths_len xs
      obtain ⟨ys, hys⟩ : ∃ ys, ys = Tr.ths xs := ⟨_, rfl⟩
      rw [← hys] at lc hl ⊢
      have dl := ds_len ys
      cases k with
      | num i =>
        obtain rfl := List.length_eq_zero_iff.mp (show xs.length = 0 from ha)
        obtain rfl := List.length_eq_zero_iff.mp (show ys.length = 0 from hl)
        have mk1 : (Kd.num i).mk (Tr.ds []) = .tup [.str "number", .int i] := rfl
        have e0 : (Kd.num i).nm = "number" := rfl
        have dy : Tr.ds [] = [] := rfl
        rw [mk1, e0] at lc
        rw [mk1]
        simp -dsimp [List.replicate, inD_t4, inD_t2, cut_2n, cut_1n, cut_n2, cut_n1, lc, po]
        rfl
      | tru b =>
        obtain rfl := List.length_eq_zero_iff.mp (show xs.length = 0 from ha)
        obtain rfl := List.length_eq_zero_iff.mp (show ys.length = 0 from hl)
        have mk1 : (Kd.tru b).mk (Tr.ds []) = .tup [.str "truth", .bl b] := rfl
        have e0 : (Kd.tru b).nm = "truth" := rfl
        have dy : Tr.ds [] = [] := rfl
        rw [mk1, e0] at lc
        rw [mk1]
        simp -dsimp [List.replicate, inD_t4, inD_t2, cut_2n, cut_1n, cut_n2, cut_n1, lc, po]
        rfl
      | nam w =>
        obtain rfl := List.length_eq_zero_iff.mp (show xs.length = 0 from ha)
        obtain rfl := List.length_eq_zero_iff.mp (show ys.length = 0 from hl)
        have mk1 : (Kd.nam w).mk (Tr.ds []) = .tup [.str "name", .str w] := rfl
        have e0 : (Kd.nam w).nm = "name" := rfl
        have dy : Tr.ds [] = [] := rfl
        rw [mk1, e0] at lc
        rw [mk1]
        simp -dsimp [List.replicate, inD_t4, inD_t2, cut_2n, cut_1n, cut_n2, cut_n1, lc, po]
        rfl
      | rai w =>
        obtain rfl := List.length_eq_zero_iff.mp (show xs.length = 0 from ha)
        obtain rfl := List.length_eq_zero_iff.mp (show ys.length = 0 from hl)
        have mk1 : (Kd.rai w).mk (Tr.ds []) = .tup [.str "raise", .str w] := rfl
        have e0 : (Kd.rai w).nm = "raise" := rfl
        have dy : Tr.ds [] = [] := rfl
        rw [mk1, e0] at lc
        rw [mk1]
        simp -dsimp [List.replicate, inD_t4, inD_t2, cut_2n, cut_1n, cut_n2, cut_n1, lc, po]
        rfl
      | do_ w =>
        obtain ⟨a, b, rfl⟩ := len2 (show xs.length = 2 from ha)
        obtain ⟨x, y, rfl⟩ := len2 (show ys.length = 2 from hl)
        have mk1 : (Kd.do_ w).mk (Tr.ds [a, b]) = .tup [.str "do", .str w, a.d, b.d] := rfl
        have e0 : (Kd.do_ w).nm = "do" := rfl
        have dy : Tr.ds [x, y] = [x.d, y.d] := rfl
        rw [mk1, dy, e0] at lc
        rw [mk1]
        simp -dsimp [List.replicate, inD_t4, inD_t2, cut_2n, cut_1n, cut_n2, cut_n1, lc, po]
        rfl
      | let_ w =>
        obtain ⟨a, b, rfl⟩ := len2 (show xs.length = 2 from ha)
        obtain ⟨x, y, rfl⟩ := len2 (show ys.length = 2 from hl)
        have mk1 : (Kd.let_ w).mk (Tr.ds [a, b]) = .tup [.str "let", .str w, a.d, b.d] := rfl
        have e0 : (Kd.let_ w).nm = "let" := rfl
        have dy : Tr.ds [x, y] = [x.d, y.d] := rfl
        rw [mk1, dy, e0] at lc
        rw [mk1]
        simp -dsimp [List.replicate, inD_t4, inD_t2, cut_2n, cut_1n, cut_n2, cut_n1, lc, po]
        rfl
      | try_ w =>
        obtain ⟨a, b, rfl⟩ := len2 (show xs.length = 2 from ha)
        obtain ⟨x, y, rfl⟩ := len2 (show ys.length = 2 from hl)
        have mk1 : (Kd.try_ w).mk (Tr.ds [a, b]) = .tup [.str "try", a.d, .str w, b.d] := rfl
        have e0 : (Kd.try_ w).nm = "try" := rfl
        have dy : Tr.ds [x, y] = [x.d, y.d] := rfl
        rw [mk1, dy, e0] at lc
        rw [mk1]
        simp -dsimp [List.replicate, inD_t4, inD_t2, cut_2n, cut_1n, cut_n2, cut_n1, lc, po]
        rfl
      | pick i =>
        obtain ⟨a, rfl⟩ := len1 (show xs.length = 1 from ha)
        obtain ⟨x, rfl⟩ := len1 (show ys.length = 1 from hl)
        have mk1 : (Kd.pick i).mk (Tr.ds [a]) = .tup [.str "pick", .int i, a.d] := rfl
        have e0 : (Kd.pick i).nm = "pick" := rfl
        have dy : Tr.ds [x] = [x.d] := rfl
        rw [mk1, dy, e0] at lc
        rw [mk1]
        simp -dsimp [List.replicate, inD_t4, inD_t2, cut_2n, cut_1n, cut_n2, cut_n1, lc, po]
        rfl
      | mark i =>
        obtain ⟨a, rfl⟩ := len1 (show xs.length = 1 from ha)
        obtain ⟨x, rfl⟩ := len1 (show ys.length = 1 from hl)
        have mk1 : (Kd.mark i).mk (Tr.ds [a]) = .tup [.str "mark", .int i, a.d] := rfl
        have e0 : (Kd.mark i).nm = "mark" := rfl
        have dy : Tr.ds [x] = [x.d] := rfl
        rw [mk1, dy, e0] at lc
        rw [mk1]
        simp -dsimp [List.replicate, inD_t4, inD_t2, cut_2n, cut_1n, cut_n2, cut_n1, lc, po]
        rfl
      | many =>
        obtain ⟨a, rfl⟩ := len1 (show xs.length = 1 from ha)
        obtain ⟨x, rfl⟩ := len1 (show ys.length = 1 from hl)
        have mk1 : Kd.many.mk (Tr.ds [a]) = .tup [.str "many", a.d] := rfl
        have e0 : Kd.many.nm = "many" := rfl
        have dy : Tr.ds [x] = [x.d] := rfl
        rw [mk1, dy, e0] at lc
        rw [mk1]
        simp -dsimp [List.replicate, inD_t4, inD_t2, cut_2n, cut_1n, cut_n2, cut_n1, lc, po]
        rfl
      | iff =>
        obtain ⟨a, b, c, rfl⟩ := len3 (show xs.length = 3 from ha)
        obtain ⟨x, y, z, rfl⟩ := len3 (show ys.length = 3 from hl)
        have mk1 : Kd.iff.mk (Tr.ds [a, b, c]) = .tup [.str "if", a.d, b.d, c.d] := rfl
        have e0 : Kd.iff.nm = "if" := rfl
        have dy : Tr.ds [x, y, z] = [x.d, y.d, z.d] := rfl
        rw [mk1, dy, e0] at lc
        rw [mk1]
        simp -dsimp [List.replicate, inD_t4, inD_t2, cut_2n, cut_1n, cut_n2, cut_n1, lc, po]
        rfl
      | loop w w2 =>
        obtain ⟨a, b, c, rfl⟩ := len3 (show xs.length = 3 from ha)
        obtain ⟨x, y, z, rfl⟩ := len3 (show ys.length = 3 from hl)
        have mk1 : (Kd.loop w w2).mk (Tr.ds [a, b, c]) = .tup [.str "loop", .str w, a.d, .str w2, b.d, c.d] := rfl
        have e0 : (Kd.loop w w2).nm = "loop" := rfl
        have dy : Tr.ds [x, y, z] = [x.d, y.d, z.d] := rfl
        rw [mk1, dy, e0] at lc
        rw [mk1]
        simp -dsimp [List.replicate, inD_t4, inD_t2, cut_2n, cut_1n, cut_n2, cut_n1, lc, po]
        rfl
      | parts =>
        have mk1 : Kd.parts.mk (Tr.ds xs) = .tup [.str "parts", .tup (Tr.ds xs)] := rfl
        have e0 : Kd.parts.nm = "parts" := rfl
        rw [mk1, e0] at lc
        rw [mk1]
        simp -dsimp [List.replicate, inD_t4, inD_t2, cut_2n, cut_1n, cut_n2, cut_n1, lc, po]
        rfl
      | call w =>
        have mk1 : (Kd.call w).mk (Tr.ds xs) = .tup [.str "call", .str w, .tup (Tr.ds xs)] := rfl
        have e0 : (Kd.call w).nm = "call" := rfl
        rw [mk1, e0] at lc
        rw [mk1]
        simp -dsimp [List.replicate, inD_t4, inD_t2, cut_2n, cut_1n, cut_n2, cut_n1, lc, po]
        rfl
      | melt w ws =>
        obtain ⟨h1, h2⟩ : xs.length = ws.length + 1 ∧ ws.length ≤ 1000 := ha
        obtain ⟨zs, l, rfl, hz⟩ := snoc_of h1
        obtain ⟨us, v, rfl, hu⟩ := snoc_of (show ys.length = ws.length + 1 by rw [hl, h1])
        have mk1 : (Kd.melt w ws).mk (Tr.ds (zs ++ [l])) = .tup [.str "melt", .str w, .tup (prs ws (Tr.ds zs)), l.d] := by
          rw [ds_app]
          exact mk_melt (by rw [ds_len]; exact hz)
        have e0 : (Kd.melt w ws).nm = "melt" := rfl
        have dy : Tr.ds (us ++ [v]) = Tr.ds us ++ [v.d] := ds_app us [v]
        rw [mk1, dy, e0] at lc
        rw [mk1]
        simp -dsimp [List.replicate, inD_t4, inD_t2, cut_last, lc]
        show _ = (Tr.nd (.call w) (us ++ [v]).dropLast).d
        rw [List.dropLast_concat]
        rfl
/-- signs that repr tells as they are -/
def pc (c : Nat) : Bool := decide (42 ≤ c ∧ c < 92) || decide (97 ≤ c ∧ c < 123)
theorem pc_print : ∀ c, c < 123 → pc c = true → Unicode.isPrintable c = true := by decide +kernel
theorem pc_rng {c : Nat} (h : pc c = true) : 42 ≤ c ∧ c < 123 ∧ c ≠ 92 := by
  unfold pc at h
  rw [Bool.or_eq_true] at h
  rcases h with h | h
  · have := of_decide_eq_true h; omega
  · have := of_decide_eq_true h; omega
theorem reprChar_pc {q c : Nat} (hq : q = 34 ∨ q = 39) (h : pc c = true) : (Builtin.Str.reprChar q c).length = 1 := by
  obtain ⟨h1, h2, h3⟩ := pc_rng h
  have hp := pc_print c h2 h
  unfold Builtin.Str.reprChar
  have e1 : (c == q || c == 92) = false := by
    rw [Bool.or_eq_false_iff]
    constructor
    · simp; omega
    · simp; omega
  have e2 : (c == 10) = false := by simp; omega
  have e3 : (c == 13) = false := by simp; omega
  have e4 : (c == 9) = false := by simp; omega
  dsimp only
  rw [e1, e2, e3, e4, hp]
  rfl
def pcs (x : Str) : Bool := (tl x).all pc
theorem reprText_pc (x : Str) (h : pcs x = true) : (reprText x).length = x.length + 2 := by
  rw [← reprLen_eq, ← Array.foldl_toList]
  have hq : reprQuote x = 34 ∨ reprQuote x = 39 := by
    unfold reprQuote
    split
    · exact .inl rfl
    · exact .inr rfl
  have key : ∀ (l : List Nat) (n : Nat), (∀ c ∈ l, pc c = true) → l.foldl (fun n c => n + (Builtin.Str.reprChar (reprQuote x) c).length) n = n + l.length := by
    intro l
    induction l with
    | nil => intro n _; rfl
    | cons c l ih =>
      intro n hl
      rw [List.foldl_cons, ih _ fun d hd => hl d (List.mem_cons_of_mem _ hd), reprChar_pc hq (hl c (List.mem_cons_self ..)), List.length_cons]
      omega
  have e := key (tl x) 2 (List.all_eq_true.mp h)
  have e2 : x.length = (tl x).length := tl_len x
  rw [e2]
  show (tl x).foldl _ 2 = _
  rw [e]
  omega
mutual
def D.pct : D → Nat
  | .int _ => 25
  | .str x => x.length + 4
  | .tup xs => D.pcts xs + 3
  | .lst xs => D.pcts xs + 3
  | _ => 5
def D.pcts : List D → Nat
  | [] => 0
  | x :: xs => D.pct x + 2 + D.pcts xs
end
mutual
def D.pft : D → Bool
  | .non => true
  | .bl _ => true
  | .int i => decide (-18446744073709551616 < i ∧ i < 18446744073709551616)
  | .str x => pcs x
  | .tup xs => D.pfts xs
  | .lst xs => D.pfts xs
  | _ => false
def D.pfts : List D → Bool
  | [] => true
  | x :: xs => D.pft x && D.pfts xs
end
mutual
theorem pft_ok : ∀ d : D, d.pft = true → d.pl = true ∧ d.py.showable = true ∧ (d.py.shown).length ≤ d.pct
  | .non, _ => ⟨rfl, rfl, by show ("None" : Str).length ≤ 5; decide +kernel⟩
  | .bl b, _ => ⟨rfl, rfl, by cases b <;> decide +kernel⟩
  | .int i, h => fit_ok (.int i) h
  | .str x, h => by
    refine ⟨rfl, rfl, ?_⟩
    have e := reprText_pc x h
    show (reprText x).length ≤ x.length + 4
    omega
  | .tup xs, h => by
    obtain ⟨h1, h2, h3⟩ := pfts_ok xs h
    refine ⟨h1, h2, ?_⟩
    have e := fmt_text (PyData.shownAll (D.pys xs))
    show (tupleText (PyData.shownAll (D.pys xs))).length ≤ D.pcts xs + 3
    omega
  | .lst xs, h => by
    obtain ⟨h1, h2, h3⟩ := pfts_ok xs h
    refine ⟨h1, h2, ?_⟩
    have e := listText_le (PyData.shownAll (D.pys xs))
    show (listText (PyData.shownAll (D.pys xs))).length ≤ D.pcts xs + 3
    omega
theorem pfts_ok : ∀ xs : List D, D.pfts xs = true → D.pls xs = true ∧ PyData.showableAll (D.pys xs) = true ∧ piled (PyData.shownAll (D.pys xs)) ≤ D.pcts xs
  | [], _ => ⟨rfl, rfl, Nat.le_refl _⟩
  | x :: xs, h => by
    have h : (D.pft x && D.pfts xs) = true := h
    rw [Bool.and_eq_true] at h
    obtain ⟨a1, a2, a3⟩ := pft_ok x h.1
    obtain ⟨b1, b2, b3⟩ := pfts_ok xs h.2
    refine ⟨?_, ?_, ?_⟩
    · show (D.pl x && D.pls xs) = true
      rw [a1, b1]; rfl
    · show (PyData.showable (D.py x) && PyData.showableAll (D.pys xs)) = true
      rw [a2, b2]; rfl
    · show piled (PyData.shown (D.py x) :: PyData.shownAll (D.pys xs)) ≤ D.pct x + 2 + D.pcts xs
      rw [piled_cons]
      omega
end
theorem rpOk_pc {d : D} (h : d.pft = true) (h2 : d.dep ≤ 196) (h3 : d.pct ≤ 16777216) : rpOk d = true := by
  obtain ⟨a1, a2, a3⟩ := pft_ok d h
  unfold rpOk
  rw [a1, a2, decide_eq_true h2, decide_eq_true (show (rp d).length ≤ 16777216 from Nat.le_trans a3 h3)]
  rfl
@[simp] theorem pct_int (i : Int) : D.pct (.int i) = 25 := (rfl)
@[simp] theorem pct_bl (b : Bool) : D.pct (.bl b) = 5 := (rfl)
@[simp] theorem pct_str (x : Str) : D.pct (.str x) = x.length + 4 := (rfl)
@[simp] theorem pct_tup (xs : List D) : D.pct (.tup xs) = D.pcts xs + 3 := (rfl)
@[simp] theorem pct_lst (xs : List D) : D.pct (.lst xs) = D.pcts xs + 3 := (rfl)
@[simp] theorem pcts_n : D.pcts [] = 0 := (rfl)
@[simp] theorem pcts_c (x : D) (xs : List D) : D.pcts (x :: xs) = D.pct x + 2 + D.pcts xs := (rfl)
theorem pcts_app (xs ys : List D) : D.pcts (xs ++ ys) = D.pcts xs + D.pcts ys := by
  induction xs with
  | nil => simp
  | cons x xs ih => rw [List.cons_append, pcts_c, pcts_c, ih]; omega
theorem pfts_app (xs ys : List D) : D.pfts (xs ++ ys) = (D.pfts xs && D.pfts ys) := by
  induction xs with
  | nil => rfl
  | cons x xs ih =>
    show (D.pft x && D.pfts (xs ++ ys)) = (D.pft x && D.pfts xs && D.pfts ys)
    rw [ih, Bool.and_assoc]
def Wd (w : Str) : Prop := pcs w = true ∧ w.length ≤ 12
def Kd.wk : Kd → Prop
  | .num i | .pick i | .mark i => 0 ≤ i ∧ i ≤ 1000000000
  | .nam w | .rai w | .do_ w | .let_ w | .try_ w | .call w => Wd w
  | .loop w w2 => Wd w ∧ Wd w2
  | .melt w ws => Wd w ∧ ∀ v ∈ ws, Wd v
  | .tru _ | .many | .iff | .parts => True
mutual
def Tr.wk : Tr → Prop
  | .nd k xs => k.wk ∧ Tr.wks xs
def Tr.wks : List Tr → Prop
  | [] => True
  | x :: xs => x.wk ∧ Tr.wks xs
end
theorem wks_mem : ∀ {xs : List Tr}, Tr.wks xs → ∀ x ∈ xs, x.wk
  | [], _, x, h => by simp at h
  | y :: ys, ⟨h1, h2⟩, x, h => by
    rcases List.mem_cons.mp h with e | e
    · rw [e]; exact h1
    · exact wks_mem h2 x e
theorem wks_of : ∀ {xs : List Tr}, (∀ x ∈ xs, x.wk) → Tr.wks xs
  | [], _ => trivial
  | y :: ys, h => ⟨h y (List.mem_cons_self ..), wks_of fun x hx => h x (List.mem_cons_of_mem _ hx)⟩
theorem prs_pct : ∀ {ws : List Str} {ds : List D}, ds.length = ws.length → (∀ v ∈ ws, Wd v) → D.pcts (prs ws ds) ≤ D.pcts ds + 23 * ws.length
  | [], [], _, _ => by unfold prs; simp
  | w :: ws, d :: ds, h, hw => by
    have ih := prs_pct (ws := ws) (ds := ds) (by simpa using h) fun v hv => hw v (List.mem_cons_of_mem _ hv)
    have h1 := (hw w (List.mem_cons_self ..)).2
    show D.pcts (D.tup [.str w, d] :: prs ws ds) ≤ _
    rw [pcts_c, pct_tup, pcts_c, pcts_c, pct_str, pcts_n, pcts_c, List.length_cons]
    omega
theorem prs_pft : ∀ {ws : List Str} {ds : List D}, ds.length = ws.length → (∀ v ∈ ws, Wd v) → D.pfts ds = true → D.pfts (prs ws ds) = true
  | [], [], _, _, _ => rfl
  | w :: ws, d :: ds, h, hw, hd => by
    have hd : (D.pft d && D.pfts ds) = true := hd
    rw [Bool.and_eq_true] at hd
    have ih := prs_pft (ws := ws) (ds := ds) (by simpa using h) (fun v hv => hw v (List.mem_cons_of_mem _ hv)) hd.2
    have h1 := (hw w (List.mem_cons_self ..)).1
    show ((pcs w && (D.pft d && true)) && D.pfts (prs ws ds)) = true
    rw [h1, hd.1, ih]
    rfl
theorem prs_dep : ∀ {ws : List Str} {ds : List D} {n : Nat}, D.deps ds ≤ n → D.deps (prs ws ds) ≤ n + 1
  | [], _, n, _ => by unfold prs; exact Nat.zero_le _
  | _ :: _, [], n, _ => by unfold prs; exact Nat.zero_le _
  | w :: ws, d :: ds, n, h => by
    have h : max (D.dep d) (D.deps ds) ≤ n := h
    have ih := prs_dep (ws := ws) (ds := ds) (n := n) (by omega)
    show max (max 0 (max (D.dep d) 0) + 1) (D.deps (prs ws ds)) ≤ n + 1
    omega
theorem nms : ("number" : Str).length = 6 ∧ ("truth" : Str).length = 5 ∧ ("name" : Str).length = 4 ∧ ("raise" : Str).length = 5 ∧ ("do" : Str).length = 2 ∧ ("let" : Str).length = 3 ∧ ("pick" : Str).length = 4 ∧ ("mark" : Str).length = 4 ∧ ("many" : Str).length = 4 ∧ ("if" : Str).length = 2 ∧ ("parts" : Str).length = 5 ∧ ("loop" : Str).length = 4 ∧ ("try" : Str).length = 3 ∧ ("call" : Str).length = 4 ∧ ("melt" : Str).length = 4 := by decide +kernel
theorem mk_pct (k : Kd) (ds : List D) (h : k.ar ds.length) (hw : k.wk) : (k.mk ds).pct ≤ D.pcts ds + 23 * ds.length + 52 := by
  obtain ⟨n1, n2, n3, n4, n5, n6, n7, n8, n9, n10, n11, n12, n13, n14, n15⟩ := nms
  cases k with
  | num i => show D.pct (.tup [.str "number", .int i]) ≤ _; simp only [pct_tup, pcts_c, pct_str, pct_int, pcts_n, n1]; omega
  | tru b => show D.pct (.tup [.str "truth", .bl b]) ≤ _; simp only [pct_tup, pcts_c, pct_str, pct_bl, pcts_n, n2]; omega
  | nam w => have h1 := hw.2; show D.pct (.tup [.str "name", .str w]) ≤ _; simp only [pct_tup, pcts_c, pct_str, pcts_n, n3]; omega
  | rai w => have h1 := hw.2; show D.pct (.tup [.str "raise", .str w]) ≤ _; simp only [pct_tup, pcts_c, pct_str, pcts_n, n4]; omega
  | do_ w => have h1 := hw.2; show D.pct (.tup (.str "do" :: .str w :: ds)) ≤ _; simp only [pct_tup, pcts_c, pct_str, n5]; omega
  | let_ w => have h1 := hw.2; show D.pct (.tup (.str "let" :: .str w :: ds)) ≤ _; simp only [pct_tup, pcts_c, pct_str, n6]; omega
  | pick i => show D.pct (.tup (.str "pick" :: .int i :: ds)) ≤ _; simp only [pct_tup, pcts_c, pct_str, pct_int, n7]; omega
  | mark i => show D.pct (.tup (.str "mark" :: .int i :: ds)) ≤ _; simp only [pct_tup, pcts_c, pct_str, pct_int, n8]; omega
  | many => show D.pct (.tup (.str "many" :: ds)) ≤ _; simp only [pct_tup, pcts_c, pct_str, n9]; omega
  | iff => show D.pct (.tup (.str "if" :: ds)) ≤ _; simp only [pct_tup, pcts_c, pct_str, n10]; omega
  | parts => show D.pct (.tup [.str "parts", .tup ds]) ≤ _; simp only [pct_tup, pcts_c, pct_str, pcts_n, n11]; omega
  | loop w w2 =>
    obtain ⟨a, b, c, rfl⟩ := len3 (show ds.length = 3 from h)
    have h1 := hw.1.2
    have h2 := hw.2.2
    show D.pct (.tup [.str "loop", .str w, a, .str w2, b, c]) ≤ _
    simp only [pct_tup, pcts_c, pct_str, pcts_n, n12]
    omega
  | try_ w =>
    obtain ⟨a, b, rfl⟩ := len2 (show ds.length = 2 from h)
    have h1 := hw.2
    show D.pct (.tup [.str "try", a, .str w, b]) ≤ _
    simp only [pct_tup, pcts_c, pct_str, pcts_n, n13]
    omega
  | call w => have h1 := hw.2; show D.pct (.tup [.str "call", .str w, .tup ds]) ≤ _; simp only [pct_tup, pcts_c, pct_str, pcts_n, n14]; omega
  | melt w ws =>
    obtain ⟨h1, h2⟩ : ds.length = ws.length + 1 ∧ ws.length ≤ 1000 := h
    obtain ⟨xs, l, rfl, hx⟩ := snoc_of h1
    have hw1 := hw.1.2
    have hp := prs_pct hx hw.2
    rw [mk_melt hx, pcts_app, List.length_append, hx]
    simp only [pct_tup, pcts_c, pct_str, pcts_n, n15, List.length_singleton]
    omega
theorem nmp : pcs "number" = true ∧ pcs "truth" = true ∧ pcs "name" = true ∧ pcs "raise" = true ∧ pcs "do" = true ∧ pcs "let" = true ∧ pcs "pick" = true ∧ pcs "mark" = true ∧ pcs "many" = true ∧ pcs "if" = true ∧ pcs "parts" = true ∧ pcs "loop" = true ∧ pcs "try" = true ∧ pcs "call" = true ∧ pcs "melt" = true := by decide +kernel
@[simp] theorem pft_bl (b : Bool) : D.pft (.bl b) = true := (rfl)
@[simp] theorem pft_int (i : Int) : D.pft (.int i) = decide (-18446744073709551616 < i ∧ i < 18446744073709551616) := (rfl)
@[simp] theorem pft_str (x : Str) : D.pft (.str x) = pcs x := (rfl)
@[simp] theorem pft_tup (xs : List D) : D.pft (.tup xs) = D.pfts xs := (rfl)
@[simp] theorem pft_lst (xs : List D) : D.pft (.lst xs) = D.pfts xs := (rfl)
@[simp] theorem pfts_n : D.pfts [] = true := (rfl)
@[simp] theorem pfts_c (x : D) (xs : List D) : D.pfts (x :: xs) = (D.pft x && D.pfts xs) := (rfl)
theorem mk_pft (k : Kd) (ds : List D) (h : k.ar ds.length) (hw : k.wk) (hd : D.pfts ds = true) : (k.mk ds).pft = true := by
  obtain ⟨n1, n2, n3, n4, n5, n6, n7, n8, n9, n10, n11, n12, n13, n14, n15⟩ := nmp
  have ii : ∀ i : Int, 0 ≤ i ∧ i ≤ 1000000000 → decide (-18446744073709551616 < i ∧ i < 18446744073709551616) = true := fun i hi => decide_eq_true (by omega)
  cases k with
  | num i => show D.pft (.tup [.str "number", .int i]) = true; simp only [pft_tup, pfts_c, pft_str, pft_int, pfts_n, n1, ii i hw]; rfl
  | tru b => show D.pft (.tup [.str "truth", .bl b]) = true; simp only [pft_tup, pfts_c, pft_str, pft_bl, pfts_n, n2]; rfl
  | nam w => show D.pft (.tup [.str "name", .str w]) = true; simp only [pft_tup, pfts_c, pft_str, pfts_n, n3, hw.1]; rfl
  | rai w => show D.pft (.tup [.str "raise", .str w]) = true; simp only [pft_tup, pfts_c, pft_str, pfts_n, n4, hw.1]; rfl
  | do_ w => show D.pft (.tup (.str "do" :: .str w :: ds)) = true; simp only [pft_tup, pfts_c, pft_str, n5, hw.1, hd]; rfl
  | let_ w => show D.pft (.tup (.str "let" :: .str w :: ds)) = true; simp only [pft_tup, pfts_c, pft_str, n6, hw.1, hd]; rfl
  | pick i => show D.pft (.tup (.str "pick" :: .int i :: ds)) = true; simp only [pft_tup, pfts_c, pft_str, pft_int, n7, ii i hw, hd]; rfl
  | mark i => show D.pft (.tup (.str "mark" :: .int i :: ds)) = true; simp only [pft_tup, pfts_c, pft_str, pft_int, n8, ii i hw, hd]; rfl
  | many => show D.pft (.tup (.str "many" :: ds)) = true; simp only [pft_tup, pfts_c, pft_str, n9, hd]; rfl
  | iff => show D.pft (.tup (.str "if" :: ds)) = true; simp only [pft_tup, pfts_c, pft_str, n10, hd]; rfl
  | parts => show D.pft (.tup [.str "parts", .tup ds]) = true; simp only [pft_tup, pfts_c, pft_str, pfts_n, n11, hd]; rfl
  | loop w w2 =>
    obtain ⟨a, b, c, rfl⟩ := len3 (show ds.length = 3 from h)
    simp only [pfts_c, pfts_n, Bool.and_true, Bool.and_eq_true] at hd
    show D.pft (.tup [.str "loop", .str w, a, .str w2, b, c]) = true
    simp only [pft_tup, pfts_c, pft_str, pfts_n, n12, hw.1.1, hw.2.1, hd.1, hd.2.1, hd.2.2]; rfl
  | try_ w =>
    obtain ⟨a, b, rfl⟩ := len2 (show ds.length = 2 from h)
    simp only [pfts_c, pfts_n, Bool.and_true, Bool.and_eq_true] at hd
    show D.pft (.tup [.str "try", a, .str w, b]) = true
    simp only [pft_tup, pfts_c, pft_str, pfts_n, n13, hw.1, hd.1, hd.2]; rfl
  | call w => show D.pft (.tup [.str "call", .str w, .tup ds]) = true; simp only [pft_tup, pfts_c, pft_str, pfts_n, n14, hw.1, hd]; rfl
  | melt w ws =>
    obtain ⟨h1, h2⟩ : ds.length = ws.length + 1 ∧ ws.length ≤ 1000 := h
    obtain ⟨xs, l, rfl, hx⟩ := snoc_of h1
    rw [pfts_app, Bool.and_eq_true] at hd
    have hp := prs_pft hx hw.2 hd.1
    have hl : D.pft l = true := by simpa using hd.2
    rw [mk_melt hx]
    simp only [pft_tup, pfts_c, pft_str, pfts_n, n15, hw.1.1, hp, hl]; rfl
theorem mk_dep (k : Kd) (ds : List D) (n : Nat) (h : k.ar ds.length) (hd : D.deps ds ≤ n) : (k.mk ds).dep ≤ n + 3 := by
  cases k with
  | loop w w2 =>
    obtain ⟨a, b, c, rfl⟩ := len3 (show ds.length = 3 from h)
    have hd : max (D.dep a) (max (D.dep b) (max (D.dep c) 0)) ≤ n := hd
    show max 0 (max 0 (max (D.dep a) (max 0 (max (D.dep b) (max (D.dep c) 0))))) + 1 ≤ n + 3
    omega
  | try_ w =>
    obtain ⟨a, b, rfl⟩ := len2 (show ds.length = 2 from h)
    have hd : max (D.dep a) (max (D.dep b) 0) ≤ n := hd
    show max 0 (max (D.dep a) (max 0 (max (D.dep b) 0))) + 1 ≤ n + 3
    omega
  | melt w ws =>
    obtain ⟨h1, h2⟩ : ds.length = ws.length + 1 ∧ ws.length ≤ 1000 := h
    obtain ⟨xs, l, rfl, hx⟩ := snoc_of h1
    have hx1 : D.deps xs ≤ n := deps_of fun d hd' => by
      obtain ⟨p, q, rfl⟩ := List.append_of_mem hd'
      have : ∀ zs : List D, D.deps (zs ++ (d :: (q ++ [l]))) ≤ n → D.dep d ≤ n := by
        intro zs
        induction zs with
        | nil => intro h; have h : max (D.dep d) _ ≤ n := h; omega
        | cons z zs ih => intro h; have h : max (D.dep z) (D.deps (zs ++ (d :: (q ++ [l])))) ≤ n := h; exact ih (by omega)
      exact this p (by simpa using hd)
    have hl1 : D.dep l ≤ n := by
      have : ∀ zs : List D, D.deps (zs ++ [l]) ≤ n → D.dep l ≤ n := by
        intro zs
        induction zs with
        | nil => intro h; have h : max (D.dep l) 0 ≤ n := h; omega
        | cons z zs ih => intro h; have h : max (D.dep z) (D.deps (zs ++ [l])) ≤ n := h; exact ih (by omega)
      exact this xs hd
    have hp := prs_dep (ws := ws) hx1
    rw [mk_melt hx]
    show max 0 (max 0 (max (D.deps (prs ws xs) + 1) (max (D.dep l) 0))) + 1 ≤ n + 3
    omega
  | num i => show max 0 (max 0 0) + 1 ≤ n + 3; omega
  | tru i => show max 0 (max 0 0) + 1 ≤ n + 3; omega
  | nam i => show max 0 (max 0 0) + 1 ≤ n + 3; omega
  | rai i => show max 0 (max 0 0) + 1 ≤ n + 3; omega
  | do_ i => show max 0 (max 0 (D.deps ds)) + 1 ≤ n + 3; omega
  | let_ i => show max 0 (max 0 (D.deps ds)) + 1 ≤ n + 3; omega
  | pick i => show max 0 (max 0 (D.deps ds)) + 1 ≤ n + 3; omega
  | mark i => show max 0 (max 0 (D.deps ds)) + 1 ≤ n + 3; omega
  | many => show max 0 (D.deps ds) + 1 ≤ n + 3; omega
  | iff => show max 0 (D.deps ds) + 1 ≤ n + 3; omega
  | parts => show max 0 (max (D.deps ds + 1) 0) + 1 ≤ n + 3; omega
  | call w => show max 0 (max 0 (max (D.deps ds + 1) 0)) + 1 ≤ n + 3; omega
mutual
theorem tr_pct : ∀ t : Tr, t.ok → t.wk → t.d.pct + 25 ≤ 80 * t.sz
  | .nd k xs, h, hw => by
    obtain ⟨ha, ho⟩ : k.ar xs.length ∧ Tr.oks xs := h
    obtain ⟨kw, xw⟩ : k.wk ∧ Tr.wks xs := hw
    have h1 := trs_pct xs ho xw
    have h2 := mk_pct k (Tr.ds xs) (by rw [ds_len]; exact ha) kw
    rw [ds_len] at h2
    show (k.mk (Tr.ds xs)).pct + 25 ≤ 80 * (Tr.szs xs + 1)
    omega
theorem trs_pct : ∀ xs : List Tr, Tr.oks xs → Tr.wks xs → D.pcts (Tr.ds xs) + 23 * xs.length ≤ 80 * Tr.szs xs
  | [], _, _ => Nat.le_refl _
  | x :: xs, ⟨h1, h2⟩, ⟨w1, w2⟩ => by
    have a := tr_pct x h1 w1
    have b := trs_pct xs h2 w2
    show D.pct x.d + 2 + D.pcts (Tr.ds xs) + 23 * (xs.length + 1) ≤ 80 * (x.sz + Tr.szs xs)
    omega
end
mutual
theorem tr_pft : ∀ t : Tr, t.ok → t.wk → t.d.pft = true
  | .nd k xs, h, hw => by
    obtain ⟨ha, ho⟩ : k.ar xs.length ∧ Tr.oks xs := h
    obtain ⟨kw, xw⟩ : k.wk ∧ Tr.wks xs := hw
    exact mk_pft k (Tr.ds xs) (by rw [ds_len]; exact ha) kw (trs_pft xs ho xw)
theorem trs_pft : ∀ xs : List Tr, Tr.oks xs → Tr.wks xs → D.pfts (Tr.ds xs) = true
  | [], _, _ => rfl
  | x :: xs, ⟨h1, h2⟩, ⟨w1, w2⟩ => by
    show (D.pft x.d && D.pfts (Tr.ds xs)) = true
    rw [tr_pft x h1 w1, trs_pft xs h2 w2]
    rfl
end
mutual
theorem tr_dep : ∀ t : Tr, t.ok → t.d.dep + 1 ≤ 3 * t.dep
  | .nd k xs, h => by
    obtain ⟨ha, ho⟩ : k.ar xs.length ∧ Tr.oks xs := h
    have h1 := trs_dep xs ho
    show (k.mk (Tr.ds xs)).dep + 1 ≤ 3 * (Tr.deps xs + 1)
    cases xs with
    | nil =>
      have : (k.mk (Tr.ds [])).dep ≤ 2 := by
        cases k with
        | do_ w => exact absurd (show (0 : Nat) = 2 from ha) (by decide)
        | let_ w => exact absurd (show (0 : Nat) = 2 from ha) (by decide)
        | try_ w => exact absurd (show (0 : Nat) = 2 from ha) (by decide)
        | pick w => exact absurd (show (0 : Nat) = 1 from ha) (by decide)
        | mark w => exact absurd (show (0 : Nat) = 1 from ha) (by decide)
        | many => exact absurd (show (0 : Nat) = 1 from ha) (by decide)
        | iff => exact absurd (show (0 : Nat) = 3 from ha) (by decide)
        | loop w w2 => exact absurd (show (0 : Nat) = 3 from ha) (by decide)
        | melt w ws =>
          obtain ⟨h1, h2⟩ : (0 : Nat) = ws.length + 1 ∧ ws.length ≤ 1000 := ha
          omega
        | _ => first | exact Nat.le_refl 2 | exact Nat.le_succ 1
      omega
    | cons x xs =>
      have h2 := mk_dep k (Tr.ds (x :: xs)) (3 * Tr.deps (x :: xs) - 1) (by rw [ds_len]; exact ha) (by omega)
      have h3 : 1 ≤ Tr.deps (x :: xs) := by
        cases x with
        | nd k2 ys => show 1 ≤ max (Tr.deps ys + 1) (Tr.deps xs); omega
      omega
theorem trs_dep : ∀ xs : List Tr, Tr.oks xs → D.deps (Tr.ds xs) ≤ 3 * Tr.deps xs - 1
  | [], _ => Nat.zero_le _
  | x :: xs, ⟨h1, h2⟩ => by
    have a := tr_dep x h1
    have b := trs_dep xs h2
    show max (D.dep x.d) (D.deps (Tr.ds xs)) ≤ 3 * max x.dep (Tr.deps xs) - 1
    omega
end
theorem th_wk : ∀ (k : Nat) (t : Tr), t.dep ≤ k → t.wk → t.th.wk
  | 0, .nd _ xs, h, _ => absurd (show Tr.deps xs + 1 ≤ 0 from h) (by omega)
  | c + 1, .nd k xs, h, hok => by
    obtain ⟨ha, ho⟩ : k.wk ∧ Tr.wks xs := hok
    have hd : Tr.deps xs ≤ c := Nat.le_of_succ_le_succ (show Tr.deps xs + 1 ≤ c + 1 from h)
    have ihx : Tr.wks (Tr.ths xs) := wks_of fun y hy => by
      rw [ths_map] at hy
      obtain ⟨x, hx, rfl⟩ := List.mem_map.mp hy
      exact th_wk c x (deps_mem hd x hx) (wks_mem ho x hx)
    show (k.thw (Tr.ths xs)).wk
    by_cases hm : ∃ w ws, k = .melt w ws
    · obtain ⟨w, ws, rfl⟩ := hm
      exact ⟨ha.1, wks_of fun x hx => wks_mem ihx x (List.dropLast_subset _ hx)⟩
    · rw [thw_eq fun w ws e => hm ⟨w, ws, e⟩]
      exact ⟨ha, ihx⟩
mutual
theorem ls_in : ∀ (t : Tr), t.ok → t.wk → ∀ x ∈ t.ls, x.ok ∧ x.wk ∧ x.dep ≤ t.dep
  | .nd k xs, h, hw, x, hx => by
    rcases List.mem_cons.mp (show x ∈ Tr.nd k xs :: Tr.lss xs from hx) with e | e
    · rw [e]; exact ⟨h, hw, Nat.le_refl _⟩
    · obtain ⟨a, b, c⟩ := lss_in xs h.2 hw.2 x e
      exact ⟨a, b, Nat.le_succ_of_le c⟩
theorem lss_in : ∀ (xs : List Tr), Tr.oks xs → Tr.wks xs → ∀ x ∈ Tr.lss xs, x.ok ∧ x.wk ∧ x.dep ≤ Tr.deps xs
  | [], _, _, x, hx => by cases hx
  | y :: ys, ⟨h1, h2⟩, ⟨w1, w2⟩, x, hx => by
    rcases List.mem_append.mp (show x ∈ y.ls ++ Tr.lss ys from hx) with e | e
    · obtain ⟨a, b, c⟩ := ls_in y h1 w1 x e
      exact ⟨a, b, Nat.le_trans c (Nat.le_max_left _ _)⟩
    · obtain ⟨a, b, c⟩ := lss_in ys h2 w2 x e
      exact ⟨a, b, Nat.le_trans c (Nat.le_max_right _ _)⟩
end
mutual
theorem ls_sz : ∀ t : Tr, Tr.szs t.ls ≤ t.dep * t.sz
  | .nd k xs => by
    have h := lss_sz xs
    show Tr.szs xs + 1 + Tr.szs (Tr.lss xs) ≤ (Tr.deps xs + 1) * (Tr.szs xs + 1)
    have e : (Tr.deps xs + 1) * (Tr.szs xs + 1) = Tr.deps xs * Tr.szs xs + Tr.deps xs + Tr.szs xs + 1 := by
      rw [Nat.add_mul, Nat.mul_add, Nat.one_mul, Nat.mul_one]
      omega
    omega
theorem lss_sz : ∀ xs : List Tr, Tr.szs (Tr.lss xs) ≤ Tr.deps xs * Tr.szs xs
  | [] => Nat.zero_le _
  | x :: xs => by
    have h1 := ls_sz x
    have h2 := lss_sz xs
    have e : Tr.szs (Tr.lss (x :: xs)) = Tr.szs x.ls + Tr.szs (Tr.lss xs) := szs_app _ _
    have m1 : x.dep * x.sz ≤ max x.dep (Tr.deps xs) * x.sz := Nat.mul_le_mul_right _ (Nat.le_max_left _ _)
    have m2 : Tr.deps xs * Tr.szs xs ≤ max x.dep (Tr.deps xs) * Tr.szs xs := Nat.mul_le_mul_right _ (Nat.le_max_right _ _)
    rw [e]
    show _ ≤ max x.dep (Tr.deps xs) * (x.sz + Tr.szs xs)
    rw [Nat.mul_add]
    omega
end
/-- what the law may ask repr of -/
structure Good (t : Tr) : Prop where
  ok : t.ok
  wk : t.wk
  dep : t.dep ≤ 64
  sz : t.sz ≤ 2000
theorem Good.rp {t : Tr} (h : Good t) : rpOk t.d = true := by
  have h1 := tr_pct t h.ok h.wk
  have h2 := tr_dep t h.ok
  have h3 := h.dep
  have h4 := h.sz
  exact rpOk_pc (tr_pft t h.ok h.wk) (by omega) (by omega)
theorem Good.rpl {t : Tr} (h : Good t) : rpOk (.lst (Tr.ds t.th.ls)) = true := by
  have hd := h.dep
  have hs := h.sz
  have ok := th_ok 64 t hd h.ok
  have wk := th_wk 64 t hd h.wk
  have le := th_le 64 t hd
  have inn := ls_in t.th ok wk
  have lok : Tr.oks t.th.ls := oks_of fun x hx => (inn x hx).1
  have lwk : Tr.wks t.th.ls := wks_of fun x hx => (inn x hx).2.1
  have ldp : Tr.deps t.th.ls ≤ 64 := tdeps_of fun x hx => by have := (inn x hx).2.2; omega
  have p1 := trs_pct t.th.ls lok lwk
  have p2 := ls_sz t.th
  have p3 := trs_dep t.th.ls lok
  have m1 : t.th.dep * t.th.sz ≤ 64 * 2000 := Nat.mul_le_mul (by omega) (by omega)
  refine rpOk_pc (trs_pft _ lok lwk) ?_ ?_
  · show D.deps (Tr.ds t.th.ls) + 1 ≤ 196
    omega
  · show D.pcts (Tr.ds t.th.ls) + 3 ≤ 16777216
    omega
theorem abc_at (i : Int) (h0 : 0 ≤ i) (h1 : i < 26) : ∃ c : Nat, atI (Str.cps "abcdefghijklmnopqrstuvwxyz").toList i = some c ∧ 97 ≤ c ∧ c ≤ 122 := by
  have e : (Str.cps "abcdefghijklmnopqrstuvwxyz").toList = (List.range 26).map (97 + ·) := by decide +kernel
  refine ⟨97 + i.toNat, atI_ok h0 ?_, by omega, by omega⟩
  rw [e, List.getElem?_map, List.getElem?_range (by omega)]
  rfl
theorem abc_len : (Str.length "abcdefghijklmnopqrstuvwxyz") ≤ 16777216 := by decide +kernel
theorem pc_abc {c : Nat} (h : 97 ≤ c ∧ c ≤ 122) : pc c = true := by
  unfold pc
  rw [Bool.or_eq_true]
  exact .inr (decide_eq_true (by omega))
theorem pcs_rep {c : Nat} (h : 97 ≤ c ∧ c ≤ 122) (k : Nat) : pcs (repS ⟨#[c]⟩ k) = true := by
  unfold pcs
  rw [tl_rep, List.all_eq_true]
  intro x hx
  obtain ⟨l, hl, hx⟩ := List.mem_flatten.mp hx
  obtain ⟨_, rfl⟩ := List.mem_replicate.mp hl
  rw [tl_one] at hx
  rw [List.mem_singleton.mp hx]
  exact pc_abc h
theorem pcs_app (x y : Str) : pcs (x ++ y) = (pcs x && pcs y) := by
  unfold pcs
  rw [tl_app, List.all_append]
theorem pcs_cut {x : Str} (h : pcs x = true) (lo hi : Option Int) : pcs (cutS x lo hi) = true := by
  unfold pcs at *
  rw [List.all_eq_true] at *
  exact fun c hc => h c (cutS_mem hc)
def TLS : List Str := ["", "1", "2", "12", "10", "3", "20", "100", "11", "9", "999", "21"]
def KPS : List Str := ["kind", "far", "nought", "lack", "told", "dry", "refused", "name", "call", "number", "do", "truth", "root"]
theorem TLS_ok : ∀ w ∈ TLS, pcs w = true ∧ w.length ≤ 3 := by decide +kernel
theorem KPS_ok : ∀ w ∈ KPS, pcs w = true ∧ w.length ≤ 8 := by decide +kernel
/-- a list turned, its first five -/
theorem turned {xs : List Str} {t : Int} (h0 : 0 ≤ t) (h1 : t ≤ (xs.length : Int)) (h5 : 5 ≤ xs.length) :
    (cutL xs (some t) none).length + (cutL xs none (some t)).length = xs.length ∧
    (cutL (cutL xs (some t) none ++ cutL xs none (some t)) none (some 5)).length = 5 ∧ ∀ w ∈ cutL (cutL xs (some t) none ++ cutL xs none (some t)) none (some 5), w ∈ xs := by
  obtain ⟨n, rfl⟩ : ∃ n : Nat, t = (n : Int) := ⟨t.toNat, by omega⟩
  have e1 : (cutL xs (some (n : Int)) none).length = xs.length - n := by
    unfold cutL
    rw [HT.sIx_nat, HT.sIx_none, List.length_take, List.length_drop]
    omega
  have e2 : (cutL xs none (some (n : Int))).length = n := by
    unfold cutL
    rw [HT.sIx_nat, HT.sIx_none, List.length_take, List.length_drop]
    omega
  refine ⟨by omega, ?_, fun w hw => ?_⟩
  · obtain ⟨ys, hys⟩ : ∃ ys, ys = cutL xs (some (n : Int)) none ++ cutL xs none (some (n : Int)) := ⟨_, rfl⟩
    have ly : ys.length = xs.length := by rw [hys, List.length_append]; omega
    rw [← hys]
    unfold cutL
    rw [show (some (5 : Int)) = some ((5 : Nat) : Int) from rfl, HT.sIx_nat, HT.sIx_none, List.length_take, List.length_drop]
    omega
  · rcases List.mem_append.mp (cutL_mem hw) with h | h
    · exact cutL_mem h
    · exact cutL_mem h
theorem abc_is (i : Int) (h0 : 0 ≤ i) (h1 : i < 26) : atI (Str.cps "abcdefghijklmnopqrstuvwxyz").toList i = some (97 + i.toNat) := by
  have e : (Str.cps "abcdefghijklmnopqrstuvwxyz").toList = (List.range 26).map (97 + ·) := by decide +kernel
  refine atI_ok h0 ?_
  rw [e, List.getElem?_map, List.getElem?_range (by omega)]
  rfl
theorem pcs_one {c : Nat} (h : 97 ≤ c ∧ c ≤ 122) : pcs ⟨#[c]⟩ = true := by
  unfold pcs
  rw [tl_one]
  show (pc c && true) = true
  rw [pc_abc h]
  rfl
theorem cutS_ahead (x : Str) (n : Nat) (h : n ≤ x.length) : (cutS x none (some (n : Int))).length = n := by
  have e : (tl x).length = x.length := (tl_len x).symm
  rw [tl_len, cutS_tl, HT.sIx_nat, HT.sIx_none, List.length_take, List.length_drop, e]
  omega
theorem cutS_behind (x : Str) (n : Nat) (h : n ≤ x.length) : (cutS x (some (n : Int)) none).length = x.length - n := by
  have e : (tl x).length = x.length := (tl_len x).symm
  rw [tl_len, cutS_tl, HT.sIx_nat, HT.sIx_none, List.length_take, List.length_drop, e]
  omega
theorem rng5 : rangeD 0 5 = (List.range 5).map fun i : Nat => D.int (i : Int) := by
  unfold rangeD
  apply List.map_congr_left
  intro i _
  rw [Int.zero_add]
@[simp] theorem lenD_s (x : Str) : lenD (.str x) = if x.length ≤ line then some (.d (.int x.length)) else none := (rfl)
theorem strIn_one (c : Nat) (z : Str) : strIn ⟨#[c]⟩ z = decide (c ∈ tl z) := PySem.StrLaws.found_one z c
def LE26 : List Nat := [97, 98, 99, 100, 101, 102, 103, 104, 105, 106, 107, 108, 109, 110, 111, 112, 113, 114, 115, 116, 117, 118, 119, 120, 121, 122]
def FG10 : List Nat := [48, 49, 50, 51, 52, 53, 54, 55, 56, 57]
theorem tl_LE : tl "abcdefghijklmnopqrstuvwxyz" = LE26 := by decide +kernel
theorem tl_FG : tl "0123456789" = FG10 := by decide +kernel
theorem tl_0 : tl "0" = [48] := by decide +kernel
theorem tl_e : tl "" = [] := by decide +kernel
def isLe (c : Nat) : Bool := decide (c ∈ LE26)
def isFi (c : Nat) : Bool := decide (c ∈ FG10)
theorem isLe_iff (c : Nat) : isLe c = decide (97 ≤ c ∧ c ≤ 122) := by
  unfold isLe LE26
  apply decide_eq_decide.mpr
  simp only [List.mem_cons, List.not_mem_nil, or_false]
  omega
theorem isFi_iff (c : Nat) : isFi c = decide (48 ≤ c ∧ c ≤ 57) := by
  unfold isFi FG10
  apply decide_eq_decide.mpr
  simp only [List.mem_cons, List.not_mem_nil, or_false]
  omega
def KP : List Str := ["yes", "no", "if", "let", "loop", "raise", "try", "pick", "many", "parts", "mark", "melt", "def"]
theorem KP_len : ∀ s ∈ KP, s.length ≤ 10 := by
  have h : KP.all (fun s => decide (s.length ≤ 10)) = true := by decide +kernel
  intro s hs
  simpa using List.all_eq_true.mp h s hs
theorem KEPT_eq : c_KEPT = .tup (KP.map D.str) := rfl
theorem inD_strT (x : Str) (ws : List Str) : inD (.str x) (.tup (ws.map .str)) = some (.d (.bl (decide (x ∈ ws)))) := by
  show (if inOk (.str x) (ws.map .str) = true then some (M.d (.bl ((ws.map D.str).any fun y => D.eqb y (.str x)))) else none) = _
  rw [if_pos (inOk_strs x ws), any_str]
theorem inD_one (c : Nat) (z : Str) : inD (.str ⟨#[c]⟩) (.str z) = some (.d (.bl (decide (c ∈ tl z)))) := by
  show some (M.d (.bl (strIn _ _))) = _
  rw [strIn_one]
theorem str_beq (x y : Str) : (x == y) = decide (tl x = tl y) := by
  by_cases h : x = y
  · subst h; simp
  · have h2 : ¬ tl x = tl y := fun e => h (tl_ext e)
    rw [decide_eq_false h2]
    simpa using h
/-- what is_word finds -/
def wS (x : Str) : List Nat := rdrop isFi (tl x)
def wT (x : Str) : List Nat := (tl x).drop (wS x).length
def wordB (x : Str) : Bool := !decide (x ∈ KP) && (decide (1 ≤ (wS x).length) && decide ((wS x).length ≤ 8) && (wS x).all isLe) && (decide (wT x = []) || (decide ((wT x).length ≤ 3) && !decide ((wT x).head? = some 48)))
theorem rdrop_spec (p : Nat → Bool) (l : List Nat) : ∃ b, l = rdrop p l ++ b ∧ (∀ c ∈ b, p c = true) ∧ (∀ c, (rdrop p l).getLast? = some c → p c = false) := by
  refine ⟨(l.reverse.takeWhile p).reverse, ?_, ?_, ?_⟩
  · unfold rdrop
    rw [← List.reverse_append, List.takeWhile_append_dropWhile, List.reverse_reverse]
  · intro c hc
    exact List.all_eq_true.mp List.all_takeWhile c (List.mem_reverse.mp hc)
  · intro c hc
    unfold rdrop at hc
    rw [List.getLast?_reverse] at hc
    cases h : l.reverse.dropWhile p with
    | nil => rw [h] at hc; cases hc
    | cons a r =>
      rw [h] at hc
      cases hc
      have := List.head?_dropWhile_not p l.reverse
      rw [h] at this
      simpa using this
theorem stem_eq (n : Nat) (w : Str) (h : w.length ≤ 1000) : den (n + 1) "stem_of" [.d (.str w)] = .ok (.d (.str (Txt.rstripChars w "0123456789"))) [some (.d (.str w))] := by
  rw [den_stem_of]
  unfold g_stem_of b_stem_of
  simp -dsimp [List.replicate, c_FIGURES, show w.length ≤ 16777216 by omega]
theorem stem_tl (x : Str) : tl (Txt.rstripChars x "0123456789") = wS x := by
  rw [rstrip_tl, tl_FG]
  unfold wS
  congr 1
  funext c
  unfold isFi
  rw [List.contains_eq_mem]
theorem cut_from (x : Str) (k : Nat) (h : k ≤ x.length) : tl (cutS x (some (k : Int)) none) = (tl x).drop k := by
  rw [cutS_tl, HT.sIx_nat, HT.sIx_none, ← tl_len, Nat.min_eq_left h, tl_len, ← List.length_drop]
  exact List.take_length ..
theorem word_eq (n : Nat) (x : Str) (h : x.length ≤ 1000) : den (n + 2) "is_word" [.d (.str x)] = .ok (.d (.bl (wordB x))) [some (.d (.str x))] := by
  have hs := stem_tl x
  have e1 := stem_eq n x h
  have sl : (Txt.rstripChars x "0123456789").length = (wS x).length := by rw [tl_len, hs]
  have sle : (wS x).length ≤ x.length := by
    obtain ⟨b, hb, _⟩ := rdrop_spec isFi (tl x)
    have : tl x = wS x ++ b := hb
    rw [tl_len, this, List.length_append]
    omega
  obtain ⟨s, hsv⟩ : ∃ s : Str, s = Txt.rstripChars x "0123456789" := ⟨_, rfl⟩
  rw [← hsv] at hs e1 sl
  rw [den_is_word]
  unfold g_is_word b_is_word
  have lc : mLc [3] (iSeq (eN 1)) (gN 3) tTrue (eM (mBin inD (eN 3) (eC c_LETTERS))) [some (.d (.str x)), some (.d (.str s)), none, none] = .ok (.lst (((wS x).map fun c => isLe c).map .bl)) [some (.d (.str x)), some (.d (.str s)), none, none] := by
    have e2 := mLc_mapP (own := [3]) (fi := iSeq (eN 1)) (g := gN 3) (fe := eM (mBin inD (eN 3) (eC c_LETTERS)))
      (S := [some (.d (.str x)), some (.d (.str s)), none, none]) (S1 := [some (.d (.str x)), some (.d (.str s)), none, none]) (ds := strSeq s) (fun d => match d with | .str y => .bl (strIn y "abcdefghijklmnopqrstuvwxyz") | d => d) (by simp -dsimp) (by
        intro d hd
        unfold strSeq at hd
        simp only [List.mem_map] at hd
        obtain ⟨c, hc, rfl⟩ := hd
        refine ⟨_, rfl, ?_⟩
        simp -dsimp [wipeS, c_LETTERS, inD_one, strIn_one]) (by unfold strSeq; rw [List.length_map, Array.length_toList]; show s.length ≤ _; rw [sl]; simp; omega)
    rw [e2]
    have : (strSeq s).map (fun d => match d with | .str y => D.bl (strIn y "abcdefghijklmnopqrstuvwxyz") | d => d) = ((wS x).map fun c => isLe c).map .bl := by
      rw [← hs]
      show ((tl s).map fun c => D.str ⟨#[c]⟩).map _ = _
      rw [List.map_map, List.map_map]
      apply List.map_congr_left
      intro c _
      show D.bl (strIn ⟨#[c]⟩ _) = D.bl (isLe c)
      rw [strIn_one, tl_LE]
      rfl
    rw [this]
    rfl
  obtain ⟨t, ht⟩ : ∃ t : Str, t = cutS x (some ((wS x).length : Int)) none := ⟨_, rfl⟩
  have tt : tl t = wT x := by rw [ht]; exact cut_from x _ sle
  have tlen : t.length = (wT x).length := by rw [tl_len, tt]
  have tle : t.length ≤ 1000 := by rw [ht]; exact Nat.le_trans (cutS_len ..) h
  have xl : x.length ≤ 16777216 := by omega
  have sl2 : s.length ≤ 16777216 := by omega
  have te : (t == "") = decide (wT x = []) := by rw [str_beq, tt, tl_e]
  have key : ((wS x).map fun c => isLe c).all id = (wS x).all isLe := by rw [List.all_map]; rfl
  have tl2 : t.length ≤ 16777216 := by omega
  unfold wordB
  by_cases hk : x ∈ KP
  · simp -dsimp [List.replicate, KEPT_eq, inD_strT, hk, isiK]
  have sl3 : (wS x).length ≤ 16777216 := by omega
  by_cases c1 : ¬ 1 ≤ (wS x).length
  · simp -dsimp [List.replicate, KEPT_eq, inD_strT, hk, isiK, e1, sl, sl3, c1, c_MOST_LETTERS, show ¬ (1 : Int) ≤ ((wS x).length : Int) by omega]
  have c1 : 1 ≤ (wS x).length := by omega
  by_cases c8 : ¬ (wS x).length ≤ 8
  · simp -dsimp [List.replicate, KEPT_eq, inD_strT, hk, isiK, e1, sl, sl3, c1, c8, c_MOST_LETTERS, show (1 : Int) ≤ ((wS x).length : Int) by omega, show ¬ ((wS x).length : Int) ≤ 8 by omega]
  have c8 : (wS x).length ≤ 8 := by omega
  have i1 : (1 : Int) ≤ ((wS x).length : Int) := by omega
  have i8 : ((wS x).length : Int) ≤ 8 := by omega
  cases ca : (wS x).all isLe
  · rw [ca] at key
    simp -dsimp [-List.map_map, -List.all_map, List.replicate, KEPT_eq, inD_strT, hk, isiK, e1, sl, sl3, c1, c8, c_MOST_LETTERS, i1, i8, lc, allD_bls, key]
  rw [ca] at key
  have base := key
  by_cases c0 : wT x = []
  · rw [c0] at te
    simp -dsimp [-List.map_map, -List.all_map, List.replicate, KEPT_eq, inD_strT, hk, isiK, e1, sl, sl3, xl, c1, c8, c_MOST_LETTERS, i1, i8, lc, allD_bls, key, ← ht, te, c0]
  rw [decide_eq_false c0] at te
  obtain ⟨c, r, er⟩ : ∃ c r, wT x = c :: r := by
    cases hh : wT x with
    | nil => exact absurd hh c0
    | cons c r => exact ⟨c, r, rfl⟩
  have at0 : atI t.cps.toList 0 = some c := by
    show atI (tl t) 0 = some c
    rw [tt, er]; exact atI_ok (by decide) rfl
  have c48 : ((⟨#[c]⟩ : Str) == "0") = decide (c = 48) := by
    rw [str_beq, tl_0]
    show decide ([c] = [48]) = _
    by_cases z : c = 48
    · subst z; rfl
    · rw [decide_eq_false z]; simpa using z
  rw [er] at tlen c0
  by_cases c3 : (c :: r).length ≤ 3
  · have i3 : ((c :: r).length : Int) ≤ 3 := by omega
    rw [← tlen] at i3
    by_cases z : c = 48
    · subst z
      simp -dsimp [-List.map_map, -List.all_map, -List.length_cons, List.replicate, KEPT_eq, inD_strT, hk, isiK, e1, sl, sl3, xl, c1, c8, c_MOST_LETTERS, c_MOST_FIGURES, i1, i8, lc, allD_bls, key, ← ht, te, er, tl2, i3, c3, at0, c48]
    · simp -dsimp [-List.map_map, -List.all_map, -List.length_cons, List.replicate, KEPT_eq, inD_strT, hk, isiK, e1, sl, sl3, xl, c1, c8, c_MOST_LETTERS, c_MOST_FIGURES, i1, i8, lc, allD_bls, key, ← ht, te, er, tl2, i3, c3, at0, c48, z]
  · have i3 : ¬ ((c :: r).length : Int) ≤ 3 := by omega
    rw [← tlen] at i3
    simp -dsimp [-List.map_map, -List.all_map, -List.length_cons, List.replicate, KEPT_eq, inD_strT, hk, isiK, e1, sl, sl3, xl, c1, c8, c_MOST_LETTERS, c_MOST_FIGURES, i1, i8, lc, allD_bls, key, ← ht, te, er, tl2, i3, c3]
def SG : List Str := ["+", "-", "*", "/", "<", "="]
/-- what is_node asks of a node, beyond its form -/
def Kd.tk : Kd → Nat → Prop
  | .num _, _ | .tru _, _ | .mark _, _ | .many, _ | .iff, _ => True
  | .pick i, _ => 1 ≤ i ∧ i ≤ 4
  | .nam w, _ | .rai w, _ | .let_ w, _ | .try_ w, _ => wordB w = true
  | .do_ w, _ => w ∈ SG
  | .parts, n => n ≤ 4
  | .loop w w2, _ => wordB w = true ∧ wordB w2 = true ∧ w ≠ w2
  | .call w, n => wordB w = true ∧ n ≤ 4
  | .melt w ws, _ => wordB w = true ∧ (∀ v ∈ ws, wordB v = true) ∧ ws.Nodup ∧ ws.length ≤ 4
mutual
def Tr.tk : Tr → Prop
  | .nd k xs => k.tk xs.length ∧ Tr.tks xs
def Tr.tks : List Tr → Prop
  | [] => True
  | x :: xs => x.tk ∧ Tr.tks xs
end
theorem tks_mem : ∀ {xs : List Tr}, Tr.tks xs → ∀ x ∈ xs, x.tk
  | [], _, x, h => by simp at h
  | y :: ys, ⟨h1, h2⟩, x, h => by
    rcases List.mem_cons.mp h with e | e
    · rw [e]; exact h1
    · exact tks_mem h2 x e
theorem tks_of : ∀ {xs : List Tr}, (∀ x ∈ xs, x.tk) → Tr.tks xs
  | [], _ => trivial
  | y :: ys, h => ⟨h y (List.mem_cons_self ..), tks_of fun x hx => h x (List.mem_cons_of_mem _ hx)⟩
theorem th_tk : ∀ (k : Nat) (t : Tr), t.dep ≤ k → t.ok → t.tk → t.th.tk
  | 0, .nd _ xs, h, _, _ => absurd (show Tr.deps xs + 1 ≤ 0 from h) (by omega)
  | c + 1, .nd k xs, h, ho, hk => by
    obtain ⟨ha, hx⟩ : k.tk xs.length ∧ Tr.tks xs := hk
    obtain ⟨ka, ho⟩ : k.ar xs.length ∧ Tr.oks xs := ho
    have hd : Tr.deps xs ≤ c := Nat.le_of_succ_le_succ (show Tr.deps xs + 1 ≤ c + 1 from h)
    have ihx : Tr.tks (Tr.ths xs) := tks_of fun y hy => by
      rw [ths_map] at hy
      obtain ⟨x, hx2, rfl⟩ := List.mem_map.mp hy
      exact th_tk c x (deps_mem hd x hx2) (oks_mem ho x hx2) (tks_mem hx x hx2)
    show (k.thw (Tr.ths xs)).tk
    by_cases hm : ∃ w ws, k = .melt w ws
    · obtain ⟨w, ws, rfl⟩ := hm
      obtain ⟨ka, _⟩ : xs.length = ws.length + 1 ∧ ws.length ≤ 1000 := ka
      refine ⟨⟨ha.1, ?_⟩, tks_of fun x hx => tks_mem ihx x (List.dropLast_subset _ hx)⟩
      rw [List.length_dropLast, ths_len, ka]
      have := ha.2.2.2
      omega
    · rw [thw_eq fun w ws e => hm ⟨w, ws, e⟩]
      refine ⟨?_, ihx⟩
      rw [ths_len]
      exact ha
theorem w_at {ws : List Str} (hl : ws.length = 5) {v : Int} (v0 : 0 ≤ v) (v1 : v < 5) : ∃ w, w ∈ ws ∧ atI (ws.map D.str) v = some (.str w) := by
  have h : v.toNat < ws.length := by omega
  exact ⟨ws[v.toNat], List.getElem_mem h, atI_ok v0 (by rw [List.getElem?_map, List.getElem?_eq_getElem h]; rfl)⟩
theorem plain_wp (n : Nat) (g : Bag) (hg : g.Ok) (ws : List Str) (hl : ws.length = 5) (hw : ∀ w ∈ ws, Wd w) (hwb : ∀ w ∈ ws, wordB w = true) {Q : M → List (Option M) → Prop}
    (h : ∀ (k : Kd) (g' : Bag), k.ar 0 → k.wk → k.tk 0 → g'.Ok → Q (.d (k.mk [])) [some g'.enc, some (.lst (ws.map .str))]) : (den (n + 2) "_law_plain" [g.enc, .lst (ws.map .str)]).wp Q := by
  rw [den__law_plain]
  refine run_wp rfl ?_
  unfold b__law_plain
  have hne : (ws.map D.str).isEmpty = false := by
    cases ws with
    | nil => cases hl
    | cons a b => rfl
  simp -dsimp [List.replicate, den__law_take]
  refine take_wp _ g _ hg (by decide) (by decide) fun way g w0 w1 hg => ?_
  by_cases c3 : 3 < way
  · simp -dsimp [-neD_ap, c3, ne_nil, hne, hl]
    refine take_wp _ g _ hg (by decide) (by decide) fun v g v0 v1 hg => ?_
    obtain ⟨w, hm, e⟩ := w_at hl v0 v1
    simp -dsimp [e]
    exact h (.nam w) g rfl (hw w hm) (hwb w hm) hg
  by_cases c0 : way = 0
  · subst c0
    simp -dsimp
    refine take_wp _ g _ hg (by decide) (by decide) fun v g v0 v1 hg => ?_
    simp -dsimp
    exact h (.tru _) g rfl trivial trivial hg
  simp -dsimp [c3, c0]
  refine take_wp _ g _ hg (by decide) (by decide) fun u g u0 u1 hg => ?_
  by_cases c7 : u = 7
  · subst c7
    simp -dsimp
    refine take_wp _ g _ hg (by decide) (by decide) fun v g v0 v1 hg => ?_
    simp -dsimp
    exact h (.num v) g rfl ⟨v0, by omega⟩ trivial hg
  simp -dsimp [c7]
  refine take_wp _ g _ hg (by decide) (by decide) fun v g v0 v1 hg => ?_
  simp -dsimp
  exact h (.num v) g rfl ⟨v0, by omega⟩ trivial hg
theorem op_at {v : Int} (v0 : 0 ≤ v) (v1 : v < 6) : ∃ c : Nat, atI (Str.cps "+-*/<=").toList v = some c ∧ Wd ⟨#[c]⟩ ∧ (⟨#[c]⟩ : Str) ∈ SG := by
  have e : (Str.cps "+-*/<=").toList = [43, 45, 42, 47, 60, 61] := by decide +kernel
  rw [e]
  have : v = 0 ∨ v = 1 ∨ v = 2 ∨ v = 3 ∨ v = 4 ∨ v = 5 := by omega
  rcases this with e | e | e | e | e | e <;> subst e
  · exact ⟨43, by simp, ⟨by decide +kernel, by decide +kernel⟩, by decide +kernel⟩
  · exact ⟨45, by simp, ⟨by decide +kernel, by decide +kernel⟩, by decide +kernel⟩
  · exact ⟨42, by simp, ⟨by decide +kernel, by decide +kernel⟩, by decide +kernel⟩
  · exact ⟨47, by simp, ⟨by decide +kernel, by decide +kernel⟩, by decide +kernel⟩
  · exact ⟨60, by simp, ⟨by decide +kernel, by decide +kernel⟩, by decide +kernel⟩
  · exact ⟨61, by simp, ⟨by decide +kernel, by decide +kernel⟩, by decide +kernel⟩
theorem op_len : (Str.length "+-*/<=") ≤ 16777216 := by decide +kernel
theorem wd3 : Wd "kind" ∧ Wd "far" ∧ Wd "lack" := by
  refine ⟨⟨?_, ?_⟩, ⟨?_, ?_⟩, ⟨?_, ?_⟩⟩ <;> decide +kernel
theorem wb3 : wordB "kind" = true ∧ wordB "far" = true ∧ wordB "lack" = true := by decide +kernel
theorem sd_pos (t : Tr) : 1 ≤ t.sz ∧ 1 ≤ t.dep := by
  cases t with
  | nd k xs =>
    show 1 ≤ Tr.szs xs + 1 ∧ 1 ≤ Tr.deps xs + 1
    omega
theorem nm_num {k : Kd} (h : ∀ i, k ≠ .num i) : (k.nm == ("number" : Str)) = false := by
  cases k with
  | num i => exact absurd rfl (h i)
  | _ => simp [Kd.nm]
theorem node_wp (n : Nat) (g : Bag) (hg : g.Ok) (way : Int) (w0 : 0 ≤ way) (w1 : way < 16) (a b : Str) (ha : Wd a) (hb : Wd b) (xs : List Tr) (ho : Tr.oks xs) (hk : Tr.wks xs)
    (htk : Tr.tks xs) (wa : wordB a = true) (wb : wordB b = true) (hab : a ≠ b) (h04 : way < 5 ∨ way = 8 → xs.length ≤ 4) (h0 : xs.length ≤ 1000) (h1 : way = 9 ∨ way = 15 → xs.length = 1) (h2 : way = 5 ∨ way = 6 ∨ way = 7 ∨ way = 11 ∨ way = 12 → xs.length = 2) (h3 : way = 10 ∨ way = 13 → xs.length = 3) (h4 : way = 14 → xs = [] ∨ xs.length = 2)
    {Q : M → List (Option M) → Prop}
    (h : ∀ (t : Tr) (g' : Bag), t.ok → t.wk → t.tk → t.dep ≤ Tr.deps xs + 1 → t.sz ≤ Tr.szs xs + 1 → g'.Ok → Q (.d t.d) [some g'.enc, some (.d (.int way)), some (.d (.tup [.str a, .str b])), some (.lst (Tr.ds xs)), some (.d (.tup [.str a, .str b]))]) :
    (den (n + 2) "_law_node" [g.enc, .d (.int way), .d (.tup [.str a, .str b]), .lst (Tr.ds xs), .d (.tup [.str a, .str b])]).wp Q := by
  have mk : ∀ (k : Kd) (g' : Bag), k.ar xs.length → k.wk → k.tk xs.length → g'.Ok → Q (.d (k.mk (Tr.ds xs))) [some g'.enc, some (.d (.int way)), some (.d (.tup [.str a, .str b])), some (.lst (Tr.ds xs)), some (.d (.tup [.str a, .str b]))] :=
    fun k g' ka kw kt hg => h (.nd k xs) g' ⟨ka, ho⟩ ⟨kw, hk⟩ ⟨kt, htk⟩ (Nat.le_refl _) (Nat.le_refl _) hg
  rw [den__law_node]
  refine run_wp rfl ?_
  unfold b__law_node
  by_cases c5 : way < 5
  · simp -dsimp [List.replicate, den__law_take, c5]
    exact mk (.call a) g h0 ha ⟨wa, h04 (.inl c5)⟩ hg
  by_cases c8 : way < 8
  · obtain ⟨x, y, rfl⟩ := len2 (h2 (by omega))
    have dy : Tr.ds [x, y] = [x.d, y.d] := rfl
    simp -dsimp [List.replicate, den__law_take, c5, c8, dy]
    refine take_wp _ g _ hg (by decide) (by decide) fun v g v0 v1 hg => ?_
    obtain ⟨c, e, hc, hcs⟩ := op_at v0 v1
    simp -dsimp [e, op_len]
    exact mk (.do_ ⟨#[c]⟩) g rfl hc hcs hg
  by_cases e8 : way = 8
  · subst e8
    simp -dsimp [List.replicate, den__law_take]
    exact mk .parts g h0 trivial (h04 (.inr rfl)) hg
  by_cases e9 : way = 9
  · subst e9
    obtain ⟨x, rfl⟩ := len1 (h1 (by omega))
    have dy : Tr.ds [x] = [x.d] := rfl
    simp -dsimp [List.replicate, den__law_take, dy]
    refine take_wp _ g _ hg (by decide) (by decide) fun v g v0 v1 hg => ?_
    obtain ⟨p, hp⟩ : ∃ p : Int, p = 1 + v := ⟨_, rfl⟩
    simp -dsimp [← hp]
    refine take_wp _ g _ hg (by decide) (by decide) fun u g u0 u1 hg => ?_
    have : u = 0 ∨ u = 1 := by omega
    rcases this with e | e <;> subst e
    · simp -dsimp
      exact mk .many g rfl trivial trivial hg
    · simp -dsimp
      exact mk (.pick p) g rfl ⟨by omega, by omega⟩ ⟨by omega, by omega⟩ hg
  by_cases e10 : way = 10
  · subst e10
    obtain ⟨x, y, z, rfl⟩ := len3 (h3 (by omega))
    have dy : Tr.ds [x, y, z] = [x.d, y.d, z.d] := rfl
    obtain ⟨k, ys⟩ := x
    have dx : (Tr.nd k ys).d = k.mk (Tr.ds ys) := rfl
    have e0 := mk_0 k (Tr.ds ys)
    by_cases hn : ∃ i, k = .num i
    · obtain ⟨i, rfl⟩ := hn
      have m1 : (Kd.num i).mk (Tr.ds ys) = .tup [.str "number", .int i] := rfl
      simp -dsimp [List.replicate, den__law_take, dy, dx, m1]
      obtain ⟨⟨xa, xo⟩, yo, zo, _⟩ : (Tr.nd (.num i) ys).ok ∧ y.ok ∧ z.ok ∧ True := ho
      obtain ⟨⟨xk, xw⟩, yk, zk, _⟩ : (Tr.nd (.num i) ys).wk ∧ y.wk ∧ z.wk ∧ True := hk
      have p := sd_pos (.nd (.num i) ys)
      have d1 : Tr.dep (.nd (.num i) ys) ≤ Tr.deps [.nd (.num i) ys, y, z] := Nat.le_max_left _ _
      refine (?_ : ∀ t : Tr, t.ok → t.wk → t.tk → t.dep = 1 → t.sz = 1 → Q (.d (.tup [.str "if", t.d, y.d, z.d])) _) (.nd (.tru _) []) ⟨rfl, trivial⟩ ⟨trivial, trivial⟩ ⟨trivial, trivial⟩ rfl rfl
      obtain ⟨xt, yt, zt, _⟩ : (Tr.nd (.num i) ys).tk ∧ y.tk ∧ z.tk ∧ True := htk
      intro t tok twk ttk td ts
      have := h (.nd .iff [t, y, z]) g ⟨rfl, tok, yo, zo, trivial⟩ ⟨trivial, twk, yk, zk, trivial⟩ ⟨trivial, ttk, yt, zt, trivial⟩ (by
        have e1 : Tr.deps [.nd (.num i) ys, y, z] = max (Tr.dep (.nd (.num i) ys)) (max y.dep (max z.dep 0)) := rfl
        rw [e1]
        show max t.dep (max y.dep (max z.dep 0)) + 1 ≤ _
        omega) (by
        have e1 : Tr.szs [.nd (.num i) ys, y, z] = Tr.sz (.nd (.num i) ys) + (y.sz + (z.sz + 0)) := rfl
        rw [e1]
        show t.sz + (y.sz + (z.sz + 0)) + 1 ≤ _
        omega) hg
      rw [dy, dx, m1] at this
      exact this
    · have nn := nm_num (k := k) fun i e => hn ⟨i, e⟩
      simp -dsimp [List.replicate, den__law_take, dy, dx, e0, nn]
      exact mk .iff g rfl trivial trivial hg
  by_cases c13 : way < 13
  · obtain ⟨x, y, rfl⟩ := len2 (h2 (by omega))
    have dy : Tr.ds [x, y] = [x.d, y.d] := rfl
    simp -dsimp [List.replicate, den__law_take, c5, c8, e8, e9, e10, c13, dy]
    exact mk (.let_ a) g rfl ha wa hg
  by_cases e13 : way = 13
  · subst e13
    obtain ⟨x, y, z, rfl⟩ := len3 (h3 (by omega))
    have dy : Tr.ds [x, y, z] = [x.d, y.d, z.d] := rfl
    simp -dsimp [List.replicate, den__law_take, dy]
    refine take_wp _ g _ hg (by decide) (by decide) fun v g v0 v1 hg => ?_
    simp -dsimp
    refine take_wp _ g _ hg (by decide) (by decide) fun u g u0 u1 hg => ?_
    have : u = 0 ∨ u = 1 := by omega
    rcases this with e | e <;> subst e
    · simp -dsimp
      exact mk (.loop a b) g rfl ⟨ha, hb⟩ ⟨wa, wb, hab⟩ hg
    · simp -dsimp
      obtain ⟨xo, yo, zo, _⟩ : x.ok ∧ y.ok ∧ z.ok ∧ True := ho
      obtain ⟨xk, yk, zk, _⟩ : x.wk ∧ y.wk ∧ z.wk ∧ True := hk
      obtain ⟨xt, yt, zt, _⟩ : x.tk ∧ y.tk ∧ z.tk ∧ True := htk
      have p := sd_pos y
      exact h (.nd (.loop a b) [x, .nd (.num v) [], z]) g ⟨rfl, xo, ⟨rfl, trivial⟩, zo, trivial⟩ ⟨⟨ha, hb⟩, xk, ⟨⟨v0, by omega⟩, trivial⟩, zk, trivial⟩ ⟨⟨wa, wb, hab⟩, xt, ⟨trivial, trivial⟩, zt, trivial⟩ (by
        show max x.dep (max 1 (max z.dep 0)) + 1 ≤ max x.dep (max y.dep (max z.dep 0)) + 1
        omega) (by
        show x.sz + (1 + (z.sz + 0)) + 1 ≤ x.sz + (y.sz + (z.sz + 0)) + 1
        omega) hg
  by_cases e14 : way = 14
  · subst e14
    rcases h4 rfl with e | e
    · subst e
      have dy : Tr.ds [] = [] := rfl
      simp -dsimp [List.replicate, den__law_take, dy]
      exact mk (.rai a) g rfl ha wa hg
    · obtain ⟨x, y, rfl⟩ := len2 e
      have dy : Tr.ds [x, y] = [x.d, y.d] := rfl
      obtain ⟨xo, yo, _⟩ : x.ok ∧ y.ok ∧ True := ho
      obtain ⟨xk, yk, _⟩ : x.wk ∧ y.wk ∧ True := hk
      have xp := (pft_ok _ (tr_pft x xo xk)).1
      have yp := (pft_ok _ (tr_pft y yo yk)).1
      simp -dsimp [List.replicate, den__law_take, dy, xp, yp]
      refine take_wp _ g _ hg (by decide) (by decide) fun u g u0 u1 hg => ?_
      obtain ⟨k1, k2, k3⟩ := wd3
      obtain ⟨b1, b2, b3⟩ := wb3
      have : u = 0 ∨ u = 1 ∨ u = 2 ∨ u = 3 := by omega
      rcases this with e | e | e | e <;> subst e
      · simp -dsimp
        exact mk (.try_ a) g rfl ha wa hg
      · simp -dsimp
        exact mk (.try_ "kind") g rfl k1 b1 hg
      · simp -dsimp
        exact mk (.try_ "far") g rfl k2 b2 hg
      · simp -dsimp
        exact mk (.try_ "lack") g rfl k3 b3 hg
  have e15 : way = 15 := by omega
  subst e15
  obtain ⟨x, rfl⟩ := len1 (h1 (by omega))
  have dy : Tr.ds [x] = [x.d] := rfl
  simp -dsimp [List.replicate, den__law_take, dy]
  refine take_wp _ g _ hg (by decide) (by decide) fun v g v0 v1 hg => ?_
  simp -dsimp
  refine take_wp _ g _ hg (by decide) (by decide) fun u g u0 u1 hg => ?_
  by_cases cu : u = 15
  · subst cu
    simp -dsimp
    exact mk (.mark 1000000000) g rfl ⟨by decide, by decide⟩ trivial hg
  · simp -dsimp [cu]
    exact mk (.mark v) g rfl ⟨v0, by omega⟩ trivial hg
theorem w_inj {ws : List Str} (hn : ws.Nodup) (hl : ws.length = 5) {u v : Int} {w : Str} (u0 : 0 ≤ u) (u1 : u < 5) (v0 : 0 ≤ v) (v1 : v < 5) (e1 : atI (ws.map D.str) u = some (.str w)) (e2 : atI (ws.map D.str) v = some (.str w)) : u = v := by
  obtain ⟨a, rfl⟩ : ∃ a : Nat, u = (a : Int) := ⟨u.toNat, by omega⟩
  obtain ⟨b, rfl⟩ : ∃ a : Nat, v = (a : Int) := ⟨v.toNat, by omega⟩
  have ha : a < ws.length := by omega
  have hb : b < ws.length := by omega
  rw [atI_nn, List.getElem?_map, List.getElem?_eq_getElem ha] at e1
  rw [atI_nn, List.getElem?_map, List.getElem?_eq_getElem hb] at e2
  have e1 : D.str ws[a] = .str w := Option.some.inj e1
  have e2 : D.str ws[b] = .str w := Option.some.inj e2
  injection e1 with e1
  injection e2 with e2
  have hp := List.pairwise_iff_getElem.mp hn
  rcases Nat.lt_trichotomy a b with h | h | h
  · exact absurd (e1.trans e2.symm) (hp a b ha hb h)
  · rw [h]
  · exact absurd (e2.trans e1.symm) (hp b a hb ha h)
theorem nodup_mapO {α β : Type} {f : α → β} {l : List α} (h : ∀ x ∈ l, ∀ y ∈ l, f x = f y → x = y) (hn : l.Nodup) : (l.map f).Nodup := by
  induction l with
  | nil => exact List.nodup_nil
  | cons x l ih =>
    rw [List.nodup_cons] at hn
    rw [List.map_cons, List.nodup_cons]
    refine ⟨fun hx => ?_, ih (fun a ha b hb => h a (List.mem_cons_of_mem _ ha) b (List.mem_cons_of_mem _ hb)) hn.2⟩
    obtain ⟨y, hy, e⟩ := List.mem_map.mp hx
    have := h y (List.mem_cons_of_mem _ hy) x (List.mem_cons_self ..) e
    exact hn.1 (this ▸ hy)
/-- what `_law_any` does -/
def AnyOk (f : Str → List M → CR) (ws : List Str) (deep : Int) : Prop := ∀ (g : Bag) (room : Int) (Q : M → List (Option M) → Prop), g.Ok → 0 ≤ room → room ≤ 660 →
    (∀ (t : Tr) (g' : Bag), t.ok → t.wk → t.tk → (t.dep : Int) ≤ max 1 deep → (t.sz : Int) ≤ max 1 room → g'.Ok → Q (.d t.d) [some g'.enc, some (.lst (ws.map .str)), some (.d (.int room)), some (.d (.int deep))]) →
    (f "_law_any" [g.enc, .lst (ws.map .str), .d (.int room), .d (.int deep)]).wp Q
theorem many_at {way z : Int} (w0 : 0 ≤ way) (w1 : way < 18) (z0 : 0 ≤ z) (z1 : z < 5) : ∃ m : Int,
    atI [D.int z, .int z, .int z, .int z, .int z, .int 2, .int 2, .int 2, .int z, .int 1, .int 3, .int 2, .int 2, .int 3, .int (2 * z.fmod 2), .int 1, .int (1 + z), .int (1 + z)] way = some (.int m) ∧
    0 ≤ m ∧ m ≤ 5 ∧ (way = 9 ∨ way = 15 → m = 1) ∧ (way = 5 ∨ way = 6 ∨ way = 7 ∨ way = 11 ∨ way = 12 → m = 2) ∧ (way = 10 ∨ way = 13 → m = 3) ∧ (way = 14 → m = 0 ∨ m = 2) ∧ (16 ≤ way → m = 1 + z) ∧ (way < 5 ∨ way = 8 → m = z) := by
  have h2 : 0 ≤ z.fmod 2 ∧ z.fmod 2 < 2 := by rw [fmod_pos (by decide)]; omega
  obtain ⟨u, hu⟩ : ∃ u, u = z.fmod 2 := ⟨_, rfl⟩
  rw [← hu] at h2 ⊢
  have hw : way = 0 ∨ way = 1 ∨ way = 2 ∨ way = 3 ∨ way = 4 ∨ way = 5 ∨ way = 6 ∨ way = 7 ∨ way = 8 ∨ way = 9 ∨ way = 10 ∨ way = 11 ∨ way = 12 ∨ way = 13 ∨ way = 14 ∨ way = 15 ∨ way = 16 ∨ way = 17 := by omega
  rcases hw with e | e | e | e | e | e | e | e | e | e | e | e | e | e | e | e | e | e <;> subst e
  · exact ⟨z, atI_ok (by decide) rfl, by omega, by omega, by omega, by omega, by omega, by omega, by omega, by omega⟩
  · exact ⟨z, atI_ok (by decide) rfl, by omega, by omega, by omega, by omega, by omega, by omega, by omega, by omega⟩
  · exact ⟨z, atI_ok (by decide) rfl, by omega, by omega, by omega, by omega, by omega, by omega, by omega, by omega⟩
  · exact ⟨z, atI_ok (by decide) rfl, by omega, by omega, by omega, by omega, by omega, by omega, by omega, by omega⟩
  · exact ⟨z, atI_ok (by decide) rfl, by omega, by omega, by omega, by omega, by omega, by omega, by omega, by omega⟩
  · exact ⟨2, atI_ok (by decide) rfl, by omega, by omega, by omega, by omega, by omega, by omega, by omega, by omega⟩
  · exact ⟨2, atI_ok (by decide) rfl, by omega, by omega, by omega, by omega, by omega, by omega, by omega, by omega⟩
  · exact ⟨2, atI_ok (by decide) rfl, by omega, by omega, by omega, by omega, by omega, by omega, by omega, by omega⟩
  · exact ⟨z, atI_ok (by decide) rfl, by omega, by omega, by omega, by omega, by omega, by omega, by omega, by omega⟩
  · exact ⟨1, atI_ok (by decide) rfl, by omega, by omega, by omega, by omega, by omega, by omega, by omega, by omega⟩
  · exact ⟨3, atI_ok (by decide) rfl, by omega, by omega, by omega, by omega, by omega, by omega, by omega, by omega⟩
  · exact ⟨2, atI_ok (by decide) rfl, by omega, by omega, by omega, by omega, by omega, by omega, by omega, by omega⟩
  · exact ⟨2, atI_ok (by decide) rfl, by omega, by omega, by omega, by omega, by omega, by omega, by omega, by omega⟩
  · exact ⟨3, atI_ok (by decide) rfl, by omega, by omega, by omega, by omega, by omega, by omega, by omega, by omega⟩
  · exact ⟨2 * u, atI_ok (by decide) rfl, by omega, by omega, by omega, by omega, by omega, by omega, by omega, by omega⟩
  · exact ⟨1, atI_ok (by decide) rfl, by omega, by omega, by omega, by omega, by omega, by omega, by omega, by omega⟩
  · exact ⟨1 + z, atI_ok (by decide) rfl, by omega, by omega, by omega, by omega, by omega, by omega, by omega, by omega⟩
  · exact ⟨1 + z, atI_ok (by decide) rfl, by omega, by omega, by omega, by omega, by omega, by omega, by omega, by omega⟩
/-- a melt's row, made in turn -/
theorem range_prs (vs : List Str) (ds : List D) (z : Nat) (h1 : vs.length = z) (h2 : ds.length = z) :
    ((List.range z).map fun j => D.tup [.str (vs.getD j ""), ds.getD j .non]) = prs vs ds := by
  rw [← zip_prs]
  apply List.ext_getElem?
  intro i
  rw [List.getElem?_map, List.getElem?_zipWith]
  by_cases hi : i < z
  · rw [List.getElem?_range hi, List.getElem?_eq_getElem (by omega), List.getElem?_eq_getElem (by omega)]
    simp [List.getD_eq_getElem?_getD, List.getElem?_eq_getElem, h1, h2, hi]
  · rw [List.getElem?_eq_none (by rw [List.length_range]; omega), List.getElem?_eq_none (by omega)]
    rfl
theorem any_step (n : Nat) (ws : List Str) (hl : ws.length = 5) (hw : ∀ w ∈ ws, Wd w) (hwb : ∀ w ∈ ws, wordB w = true) (hnd : ws.Nodup) (deep : Int) (hd : deep ≤ 63) (hD : 2 ≤ deep → AnyOk (den (n + 2)) ws (deep - 1)) : AnyOk (den (n + 3)) ws deep := by
  intro g room Q hg r0 r1 h
  rw [den__law_any]
  refine run_wp rfl ?_
  unfold b__law_any
  simp -dsimp [List.replicate, den__law_take, hl]
  refine take_wp _ g _ hg (by decide) (by decide) fun way g w0 w1 hg => ?_
  simp -dsimp [hl]
  refine take_wp _ g _ hg (by decide) (by decide) fun at_ g a0 a1 hg => ?_
  obtain ⟨a, ha, ea⟩ := w_at hl a0 a1
  obtain ⟨q, hq⟩ : ∃ q : Int, q = (at_ + 1).fmod 5 := ⟨_, rfl⟩
  have qr : 0 ≤ q ∧ q < 5 := by rw [hq, fmod_pos (by decide)]; omega
  obtain ⟨b, hb, eb⟩ := w_at hl qr.1 qr.2
  have hab : a ≠ b := by
    intro e
    have := w_inj hnd hl a0 a1 qr.1 qr.2 ea (e ▸ eb)
    rw [hq, fmod_pos (by decide)] at this
    omega
  simp -dsimp [hl, ea, ← hq, eb]
  refine take_wp _ g _ hg (by decide) (by decide) fun z g z0 z1 hg => ?_
  obtain ⟨m, em, m0, m5, m1, m2, m3, m4, mz, mw⟩ := many_at w0 w1 z0 z1
  have mo : mulOk 2 (z.fmod 2) = true := mulOk_l (by decide)
  have pl : ∀ (k : Kd) (g' : Bag), k.ar 0 → k.wk → k.tk 0 → g'.Ok → Q (.d (k.mk [])) [some g'.enc, some (.lst (ws.map .str)), some (.d (.int room)), some (.d (.int deep))] :=
    fun k g' ka kw kt hg => h (.nd k []) g' ⟨ka, trivial⟩ ⟨kw, trivial⟩ ⟨kt, trivial⟩ (by show (1 : Int) ≤ _; omega) (by show (1 : Int) ≤ _; omega) hg
  by_cases c1 : room < 1 + m
  · simp -dsimp [mo, em, c1]
    refine plain_wp n g hg ws hl hw hwb fun k g ka kw kt hg => ?_
    simp -dsimp
    exact pl k g ka kw kt hg
  by_cases c2 : deep < 2
  · simp -dsimp [mo, em, c1, c2]
    refine plain_wp n g hg ws hl hw hwb fun k g ka kw kt hg => ?_
    simp -dsimp
    exact pl k g ka kw kt hg
  have hA := hD (by omega)
  obtain ⟨p, hp⟩ : ∃ p : Int, p = if 1 < m then m else 1 := ⟨_, rfl⟩
  have pr : 1 ≤ p ∧ p ≤ 5 ∧ (1 ≤ m → p = m) := by rw [hp]; split <;> omega
  have dp : divOk p = true := divOk_of (by omega) (by omega)
  obtain ⟨s, hs⟩ : ∃ s : Int, s = (room - 1).fdiv p := ⟨_, rfl⟩
  simp -dsimp [mo, em, c1, c2, ← hp, dp, ← hs]
  have pc5 : p = 1 ∨ p = 2 ∨ p = 3 ∨ p = 4 ∨ p = 5 := by omega
  have sr : 0 ≤ s ∧ p * s ≤ room - 1 ∧ s ≤ 660 := by
    rw [hs, fdiv_pos (by omega)]
    rcases pc5 with e | e | e | e | e <;> rw [e] <;> omega
  have s1 : 1 ≤ m → 1 ≤ s := by
    intro h1
    have := pr.2.2 h1
    rw [hs, fdiv_pos (by omega)]
    rcases pc5 with e | e | e | e | e <;> rw [e] <;> omega
  have ms : m * s ≤ room - 1 := by
    by_cases h1 : 1 ≤ m
    · rw [← pr.2.2 h1]; exact sr.2.1
    · have : m = 0 := by omega
      subst this
      omega
  obtain ⟨g0, hg0⟩ : ∃ g0, g0 = g := ⟨_, rfl⟩
  rw [← hg0]
  rw [← hg0] at hg
  obtain ⟨e, he⟩ : ∃ e : Nat, deep - 1 = (e : Int) := ⟨(deep - 1).toNat, by omega⟩
  obtain ⟨I, hI⟩ : ∃ I : List D → List D → SS → Prop, I = fun ds acc S => ∃ (g : Bag) (ts : List Tr) (s12 : Option Ev.M), g.Ok ∧ acc = Tr.ds ts ∧ Tr.oks ts ∧ Tr.wks ts ∧ Tr.tks ts ∧ Tr.deps ts ≤ e ∧ (Tr.szs ts : Int) ≤ ts.length * s ∧ (ts.length : Int) + ds.length = m ∧
      S = [some g.enc, some (M.lst (List.map D.str ws)), some (M.d (D.int room)), some (M.d (D.int deep)),
          some (M.d (D.int way)), some (M.d (D.int at_)), some (M.d (D.tup [D.str a, D.str b])), some (M.d (D.int z)),
          some (M.d (D.int m)), some (M.d (D.int s)), none, none, s12] := ⟨_, rfl⟩
  refine wp_lc (ds := rangeD 0 m.toNat) (S1 := [some g0.enc, some (M.lst (List.map D.str ws)), some (M.d (D.int room)), some (M.d (D.int deep)),
          some (M.d (D.int way)), some (M.d (D.int at_)), some (M.d (D.tup [D.str a, D.str b])), some (M.d (D.int z)),
          some (M.d (D.int m)), some (M.d (D.int s)), none, none, none]) I (by simp -dsimp [show -4611686018427387904 ≤ m ∧ m < 4611686018427387904 by omega]) (by
      rw [hI]
      exact ⟨g0, [], _, hg, rfl, trivial, trivial, trivial, Nat.zero_le _, by simp [Tr.szs], by unfold rangeD; simp; omega, rfl⟩) ?_ ?_
  · intro d ds acc S hS
    rw [hI] at hS
    obtain ⟨g, ts, s12, hg, rfl, to, tw, tt, td, tz, tl, rfl⟩ := hS
    rw [List.length_cons] at tl
    refine ⟨[some g.enc, some (M.lst (List.map D.str ws)), some (M.d (D.int room)), some (M.d (D.int deep)),
          some (M.d (D.int way)), some (M.d (D.int at_)), some (M.d (D.tup [D.str a, D.str b])), some (M.d (D.int z)),
          some (M.d (D.int m)), some (M.d (D.int s)), none, none, some (.d d)], rfl, ?_⟩
    simp -dsimp [tTrue]
    refine hA g s _ hg sr.1 sr.2.2 fun t g tok twk ttk tdp tsz hg => ?_
    have s1 := s1 (by omega)
    simp -dsimp [show (Tr.ds ts).length < 16777216 by rw [ds_len]; omega]
    refine ⟨_, _, ⟨rfl, rfl⟩, ?_⟩
    rw [hI]
    refine ⟨g, ts ++ [t], _, hg, by rw [ds_app]; rfl, oks_of fun x hx => ?_, wks_of fun x hx => ?_, tks_of fun x hx => ?_, tdeps_of fun x hx => ?_, ?_, by rw [List.length_append, List.length_singleton]; omega, rfl⟩
    · rcases List.mem_append.mp hx with hx | hx
      · exact oks_mem to x hx
      · rw [List.mem_singleton.mp hx]; exact tok
    · rcases List.mem_append.mp hx with hx | hx
      · exact wks_mem tw x hx
      · rw [List.mem_singleton.mp hx]; exact twk
    · rcases List.mem_append.mp hx with hx | hx
      · exact tks_mem tt x hx
      · rw [List.mem_singleton.mp hx]; exact ttk
    · rcases List.mem_append.mp hx with hx | hx
      · exact deps_mem td x hx
      · rw [List.mem_singleton.mp hx]; omega
    · rw [szs_app, List.length_append, List.length_singleton]
      have e1 : ((ts.length + 1 : Nat) : Int) * s = ts.length * s + s := by
        rw [Int.natCast_add, Int.add_mul]
        omega
      rw [e1]
      have : Tr.szs [t] = t.sz := by show t.sz + 0 = t.sz; omega
      rw [this]
      omega
  intro acc S hS
  rw [hI] at hS
  obtain ⟨g, ts, s12, hg, rfl, to, tw, tt, td, tz, tl, rfl⟩ := hS
  have tl : (ts.length : Int) = m := by simpa using tl
  rw [tl] at tz
  rw [show restS [some g0.enc, some (M.lst (List.map D.str ws)), some (M.d (D.int room)), some (M.d (D.int deep)),
          some (M.d (D.int way)), some (M.d (D.int at_)), some (M.d (D.tup [D.str a, D.str b])), some (M.d (D.int z)),
          some (M.d (D.int m)), some (M.d (D.int s)), none, none, none] [some g.enc, some (M.lst (List.map D.str ws)), some (M.d (D.int room)), some (M.d (D.int deep)),
          some (M.d (D.int way)), some (M.d (D.int at_)), some (M.d (D.tup [D.str a, D.str b])), some (M.d (D.int z)),
          some (M.d (D.int m)), some (M.d (D.int s)), none, none, s12] [12] = [some g.enc, some (M.lst (List.map D.str ws)), some (M.d (D.int room)), some (M.d (D.int deep)),
          some (M.d (D.int way)), some (M.d (D.int at_)), some (M.d (D.tup [D.str a, D.str b])), some (M.d (D.int z)),
          some (M.d (D.int m)), some (M.d (D.int s)), none, none, none] from rfl]
  have tsz : (Tr.szs ts : Int) + 1 ≤ max 1 room := by omega
  have tdp : (Tr.deps ts : Int) + 1 ≤ max 1 deep := by omega
  by_cases c16 : way < 16
  · simp -dsimp [c16]
    refine node_wp n g hg way w0 c16 a b (hw a ha) (hw b hb) ts to tw tt (hwb a ha) (hwb b hb) hab (by omega) (by omega) (by omega) (by omega) (by omega) (fun h => ?_) fun t g tok twk ttk td tz hg => ?_
    · rcases m4 h with e | e
      · exact .inl (List.eq_nil_of_length_eq_zero (by omega))
      · exact .inr (by omega)
    · simp -dsimp
      exact h t g tok twk ttk (by omega) (by omega) hg
  have mz := mz (by omega)
  obtain ⟨N, rfl⟩ : ∃ N : Nat, z = (N : Int) := ⟨z.toNat, by omega⟩
  obtain ⟨ys, l, rfl, hy⟩ := snoc_of (show ts.length = N + 1 by omega)
  obtain ⟨W, hW⟩ : ∃ W : Int → Str, ∀ v, 0 ≤ v → v < 5 → W v ∈ ws ∧ atI (ws.map D.str) v = some (.str (W v)) := by
    refine ⟨fun v => ws.getD v.toNat "", fun v v0 v1 => ?_⟩
    have h5 : v.toNat < ws.length := by omega
    have e : ws.getD v.toNat "" = ws[v.toNat] := by rw [List.getD_eq_getElem?_getD, List.getElem?_eq_getElem h5]; rfl
    dsimp only
    rw [e]
    exact ⟨List.getElem_mem h5, atI_ok v0 (by rw [List.getElem?_map, List.getElem?_eq_getElem h5]; rfl)⟩
  have lr : ∀ j : Nat, 0 ≤ (at_ + (j : Int)).fmod 5 ∧ (at_ + (j : Int)).fmod 5 < 5 := fun j => by rw [fmod_pos (by decide)]; omega
  obtain ⟨vs, hvs⟩ : ∃ vs : List Str, vs = (List.range N).map fun j : Nat => W ((at_ + (j : Int)).fmod 5) := ⟨_, rfl⟩
  have vl : vs.length = N := by rw [hvs, List.length_map, List.length_range]
  have vw : ∀ v ∈ vs, Wd v := by
    intro v hv
    rw [hvs] at hv
    obtain ⟨j, _, rfl⟩ := List.mem_map.mp hv
    exact hw _ (hW _ (lr j).1 (lr j).2).1
  have vwb : ∀ v ∈ vs, wordB v = true := by
    intro v hv
    rw [hvs] at hv
    obtain ⟨j, _, rfl⟩ := List.mem_map.mp hv
    exact hwb _ (hW _ (lr j).1 (lr j).2).1
  have vnd : vs.Nodup := by
    rw [hvs]
    refine nodup_mapO ?_ List.nodup_range
    intro i hi j hj e
    have hi := List.mem_range.mp hi
    have hj := List.mem_range.mp hj
    have e1 := (hW _ (lr i).1 (lr i).2).2
    have e2 := (hW _ (lr j).1 (lr j).2).2
    rw [e] at e1
    have := w_inj hnd hl (lr i).1 (lr i).2 (lr j).1 (lr j).2 e1 e2
    rw [fmod_pos (by decide), fmod_pos (by decide)] at this
    omega
  have yl : (Tr.ds ys).length = N := by rw [ds_len]; exact hy
  have de : Tr.ds (ys ++ [l]) = Tr.ds ys ++ [l.d] := ds_app ys [l]
  have lc : mLc [12] (iRng1 (eN 7)) (gN 12) tTrue (eM (mTup (aCons (eM (mBin ixD (eN 1) (eM (mBin modD (eM (mBin addD (eN 5) (eN 12))) (eM (mBlt (on1 lenD) (aCons (eN 1) aNil))))))) (aCons (eM (mBin ixD (eN 10) (eN 12))) aNil)))) [some g.enc, some (M.lst (List.map D.str ws)), some (M.d (D.int room)), some (M.d (D.int deep)),
          some (M.d (D.int way)), some (M.d (D.int at_)), some (M.d (D.tup [D.str a, D.str b])), some (M.d (D.int (N : Int))),
          some (M.d (D.int m)), some (M.d (D.int s)), some (.lst (Tr.ds ys ++ [l.d])), none, none] = .ok (.lst (prs vs (Tr.ds ys))) [some g.enc, some (M.lst (List.map D.str ws)), some (M.d (D.int room)), some (M.d (D.int deep)),
          some (M.d (D.int way)), some (M.d (D.int at_)), some (M.d (D.tup [D.str a, D.str b])), some (M.d (D.int (N : Int))),
          some (M.d (D.int m)), some (M.d (D.int s)), some (.lst (Tr.ds ys ++ [l.d])), none, none] := by
    rw [← range_prs vs (Tr.ds ys) N vl yl]
    have e2 := mLc_ts (own := [12]) (fi := iRng1 (eN 7)) (g := gN 12) (fe := eM (mTup (aCons (eM (mBin ixD (eN 1) (eM (mBin modD (eM (mBin addD (eN 5) (eN 12))) (eM (mBlt (on1 lenD) (aCons (eN 1) aNil))))))) (aCons (eM (mBin ixD (eN 10) (eN 12))) aNil)))) (S := [some g.enc, some (M.lst (List.map D.str ws)), some (M.d (D.int room)), some (M.d (D.int deep)),
          some (M.d (D.int way)), some (M.d (D.int at_)), some (M.d (D.tup [D.str a, D.str b])), some (M.d (D.int (N : Int))),
          some (M.d (D.int m)), some (M.d (D.int s)), some (.lst (Tr.ds ys ++ [l.d])), none, none]) (S1 := [some g.enc, some (M.lst (List.map D.str ws)), some (M.d (D.int room)), some (M.d (D.int deep)),
          some (M.d (D.int way)), some (M.d (D.int at_)), some (M.d (D.tup [D.str a, D.str b])), some (M.d (D.int (N : Int))),
          some (M.d (D.int m)), some (M.d (D.int s)), some (.lst (Tr.ds ys ++ [l.d])), none, none]) (ts := List.range N) (fun j : Nat => D.int (j : Int)) (fun j => D.tup [.str (vs.getD j ""), (Tr.ds ys).getD j .non]) (by
        simp -dsimp [show -4611686018427387904 ≤ (N : Int) ∧ (N : Int) < 4611686018427387904 by omega]
        unfold rangeD
        simp) (by
        intro j hj
        have hj : j < N := List.mem_range.mp hj
        obtain ⟨q, hq⟩ : ∃ q : Int, q = (at_ + (j : Int)).fmod 5 := ⟨_, rfl⟩
        have hr := lr j
        have e1 : vs.getD j "" = W q := by rw [hvs, List.getD_eq_getElem?_getD, List.getElem?_map, List.getElem?_range hj, hq]; rfl
        have e3 : atI (Tr.ds ys ++ [l.d]) (j : Int) = some ((Tr.ds ys).getD j .non) := by
          refine atI_ok (by omega) ?_
          rw [Int.toNat_natCast, List.getElem?_append_left (by omega), List.getD_eq_getElem?_getD, List.getElem?_eq_getElem (by omega)]
          rfl
        rw [← hq] at hr
        have ai := (hW q hr.1 hr.2).2
        rw [e1]
        refine ⟨[some g.enc, some (M.lst (List.map D.str ws)), some (M.d (D.int room)), some (M.d (D.int deep)),
          some (M.d (D.int way)), some (M.d (D.int at_)), some (M.d (D.tup [D.str a, D.str b])), some (M.d (D.int (N : Int))),
          some (M.d (D.int m)), some (M.d (D.int s)), some (.lst (Tr.ds ys ++ [l.d])), none, some (.d (.int (j : Int)))], rfl, ?_⟩
        simp -dsimp [wipeS, hl, ← hq, ai, e3]) (by rw [List.length_range]; show N ≤ 16777216; omega)
    rw [e2]
    rfl
  have cl : (Tr.ds ys ++ [l.d]).getLast? = some l.d := by rw [List.getLast?_append]; rfl
  simp -dsimp [c16, de, lc, cl]
  have := h (.nd (.melt b vs) (ys ++ [l])) g ⟨⟨by rw [List.length_append, hy, vl]; rfl, by omega⟩, to⟩ ⟨⟨hw b hb, vw⟩, tw⟩ ⟨⟨hwb b hb, vwb, vnd, by omega⟩, tt⟩ tdp tsz hg
  have em : (Tr.nd (.melt b vs) (ys ++ [l])).d = .tup [.str "melt", .str b, .tup (prs vs (Tr.ds ys)), l.d] := by
    show (Kd.melt b vs).mk (Tr.ds (ys ++ [l])) = _
    rw [de]
    exact mk_melt (by rw [yl, vl])
  rw [em] at this
  exact this
theorem any_wp (ws : List Str) (hl : ws.length = 5) (hw : ∀ w ∈ ws, Wd w) (hwb : ∀ w ∈ ws, wordB w = true) (hnd : ws.Nodup) : ∀ (d n : Nat) (deep : Int), deep ≤ 63 → deep ≤ d + 1 → AnyOk (den (n + d + 3)) ws deep := by
  intro d
  induction d with
  | zero => exact fun n deep h1 h2 => any_step n ws hl hw hwb hnd deep h1 fun h => absurd h (by omega)
  | succ d ih =>
    intro n deep h1 h2
    exact any_step (n + d + 1) ws hl hw hwb hnd deep h1 fun h => ih n (deep - 1) (by omega) (by omega)
theorem rep_one (k c : Nat) : (List.replicate k [c]).flatten = List.replicate k c := by
  induction k with
  | zero => rfl
  | succ k ih => rw [List.replicate_succ, List.flatten_cons, ih]; rfl
theorem rep_two (m c : Nat) : List.replicate m c ++ (List.replicate (1 : Int).toNat (List.replicate m c)).flatten = List.replicate (List.replicate m c ++ (List.replicate (1 : Int).toNat (List.replicate m c)).flatten).length c := by
  have e : (List.replicate (1 : Int).toNat (List.replicate m c)).flatten = List.replicate m c := by show ([List.replicate m c]).flatten = _; simp
  rw [e, List.replicate_append_replicate, List.length_replicate]
theorem rep_nil (m c : Nat) : List.replicate m c ++ (List.replicate (0 : Int).toNat (List.replicate m c)).flatten = List.replicate (List.replicate m c ++ (List.replicate (0 : Int).toNat (List.replicate m c)).flatten).length c := by
  have e : (List.replicate (0 : Int).toNat (List.replicate m c)).flatten = [] := rfl
  rw [e, List.append_nil, List.length_replicate]
theorem TLS_nd : TLS.Nodup := by decide +kernel
theorem KPS_nd : KPS.Nodup := by decide +kernel
theorem KPS_word : ∀ w ∈ KPS, wordB w = true := by decide +kernel
theorem TLS_fig : ∀ v ∈ TLS, (∀ x ∈ tl v, 48 ≤ x ∧ x ≤ 57) ∧ (tl v).length ≤ 3 ∧ (tl v).head? ≠ some 48 := by decide +kernel
theorem turned_nodup {xs : List Str} (hn : xs.Nodup) {t : Int} (h0 : 0 ≤ t) : (cutL (cutL xs (some t) none ++ cutL xs none (some t)) none (some 5)).Nodup := by
  obtain ⟨n, rfl⟩ : ∃ n : Nat, t = (n : Int) := ⟨t.toNat, by omega⟩
  have e1 : cutL xs (some (n : Int)) none = xs.drop n := by
    unfold cutL
    rw [HT.sIx_nat, HT.sIx_none]
    by_cases h : n ≤ xs.length
    · rw [Nat.min_eq_left h]
      exact List.take_of_length_le (by rw [List.length_drop]; exact Nat.le_refl _)
    · rw [Nat.min_eq_right (by omega), Nat.sub_self, List.take_zero, List.drop_of_length_le (by omega)]
  have e2 : cutL xs none (some (n : Int)) = xs.take n := by
    unfold cutL
    rw [HT.sIx_nat, HT.sIx_none]
    show List.take (min n xs.length - 0) (List.drop 0 xs) = _
    rw [List.drop_zero, Nat.sub_zero]
    by_cases h : n ≤ xs.length
    · rw [Nat.min_eq_left h]
    · rw [Nat.min_eq_right (by omega), List.take_length, List.take_of_length_le (by omega)]
  have e3 : (xs.drop n ++ xs.take n).Nodup := (List.perm_append_comm.nodup_iff).mpr (by rw [List.take_append_drop]; exact hn)
  rw [e1, e2]
  unfold cutL
  exact (e3.sublist (List.drop_sublist _ _)).sublist (List.take_sublist _ _)
theorem word_of {x : Str} {L N : List Nat} (e : tl x = L ++ N) (hL : ∀ c ∈ L, 97 ≤ c ∧ c ≤ 122) (hN : ∀ c ∈ N, 48 ≤ c ∧ c ≤ 57) (l1 : 1 ≤ L.length) (l8 : L.length ≤ 8) (n3 : N.length ≤ 3) (nh : N.head? ≠ some 48) (hk : x ∉ KP) : wordB x = true := by
  have e1 : wS x = L := by
    unfold wS
    rw [e]
    exact rdrop_app (fun c hc => by rw [isFi_iff]; exact decide_eq_true (hN c hc)) (fun c hc => by rw [isFi_iff]; exact decide_eq_false (by have := hL c hc; omega))
  have e2 : wT x = N := by
    unfold wT
    rw [e1, e, List.drop_left]
  have e3 : L.all isLe = true := List.all_eq_true.mpr fun c hc => by rw [isLe_iff]; exact decide_eq_true (hL c hc)
  unfold wordB
  rw [e1, e2, e3, decide_eq_false hk, decide_eq_true l1, decide_eq_true l8, decide_eq_true n3, decide_eq_false nh]
  simp
theorem KP_two : ∀ s ∈ KP, (match tl s with | a :: b :: r => decide (a ≠ b) && decide (97 ≤ b) && (decide (r = []) || r.any fun d => decide (d ≠ a) && decide (d ≠ b)) | _ => false) = true := by decide +kernel
theorem not_KP1 {x : Str} {k c : Nat} {N : List Nat} (hk : 1 ≤ k) (e : tl x = List.replicate k c ++ N) (hN : ∀ c ∈ N, 48 ≤ c ∧ c ≤ 57) : x ∉ KP := by
  intro hx
  have h := KP_two x hx
  rw [e] at h
  match k, hk with
  | 1, _ =>
    cases N with
    | nil => cases h
    | cons a N =>
      have := hN a (List.mem_cons_self ..)
      have h : (decide (c ≠ a) && decide (97 ≤ a) && _) = true := h
      rw [decide_eq_false (show ¬ 97 ≤ a by omega)] at h
      simp at h
  | k + 2, _ =>
    have h : (decide (c ≠ c) && decide (97 ≤ c) && _) = true := h
    rw [decide_eq_false (show ¬ c ≠ c by simp)] at h
    simp at h
theorem not_KP2 {x : Str} {L : List Nat} {c d : Nat} (_ : tl x = L) (h2 : ∀ y ∈ tl x, y = c ∨ y = d) (hl : (tl x).length ≠ 2) : x ∉ KP := by
  intro hx
  have h := KP_two x hx
  cases e : tl x with
  | nil => rw [e] at h; cases h
  | cons a r =>
    cases r with
    | nil => rw [e] at h; cases h
    | cons b r =>
      rw [e] at h h2 hl
      have h : (decide (a ≠ b) && decide (97 ≤ b) && (decide (r = []) || r.any fun d => decide (d ≠ a) && decide (d ≠ b))) = true := h
      rw [Bool.and_eq_true, Bool.and_eq_true, Bool.or_eq_true] at h
      obtain ⟨⟨h3, _⟩, h4⟩ := h
      have h3 := of_decide_eq_true h3
      rcases h4 with h4 | h4
      · have := of_decide_eq_true h4
        subst this
        exact hl rfl
      · obtain ⟨y, hy, h5⟩ := List.any_eq_true.mp h4
        rw [Bool.and_eq_true] at h5
        have h6 := of_decide_eq_true h5.1
        have h7 := of_decide_eq_true h5.2
        have ka := h2 a (List.mem_cons_self ..)
        have kb := h2 b (List.mem_cons_of_mem _ (List.mem_cons_self ..))
        have ky := h2 y (List.mem_cons_of_mem _ (List.mem_cons_of_mem _ hy))
        omega
theorem words_wp (n : Nat) (g : Bag) (hg : g.Ok) {Q : M → List (Option M) → Prop}
    (h : ∀ (ws : List Str) (g' : Bag), ws.length = 5 → (∀ w ∈ ws, Wd w) → (∀ w ∈ ws, wordB w = true) → ws.Nodup → g'.Ok → Q (.lst (ws.map .str)) [some g'.enc, some (.d (.int 5))]) : (den (n + 2) "_law_words" [g.enc, .d (.int 5)]).wp Q := by
  rw [den__law_words]
  refine run_wp rfl ?_
  unfold b__law_words
  simp -dsimp [List.replicate, den__law_take]
  refine take_wp _ g _ hg (by decide) (by decide) fun way g w0 w1 hg => ?_
  simp -dsimp
  refine take_wp _ g _ hg (by decide) (by decide) fun turn g t0 t1 hg => ?_
  simp -dsimp
  refine take_wp _ g _ hg (by decide) (by decide) fun i g i0 i1 hg => ?_
  obtain ⟨c, hc, c1⟩ := abc_at i i0 i1
  simp -dsimp [abc_len, hc]
  refine take_wp _ g _ hg (by decide) (by decide) fun sz g z0 z1 hg => ?_
  have hl1 : Str.length ⟨#[c]⟩ ≤ 1000 := by show 1 ≤ 1000; decide
  obtain ⟨k, hk⟩ : ∃ k : Int, k = 1 + sz := ⟨_, rfl⟩
  obtain ⟨base, hb⟩ : ∃ b : Str, b = repS ⟨#[c]⟩ k.toNat := ⟨_, rfl⟩
  have bp : pcs base = true := by rw [hb]; exact pcs_rep c1 _
  have bl : base.length = k.toNat := by rw [hb, repS_len]; show k.toNat * 1 = _; omega
  have b8 : 1 ≤ base.length ∧ base.length ≤ 8 := by omega
  have btl : tl base = List.replicate k.toNat c := by rw [hb, tl_rep]; exact rep_one _ _
  by_cases ca : way = 0
  · subst ca
    obtain ⟨t5, ht5⟩ : ∃ t : Int, t = turn.fmod 5 := ⟨_, rfl⟩
    have t5r : 0 ≤ t5 ∧ t5 < 5 := by rw [ht5, fmod_pos (by decide)]; omega
    have f1 : cutD [.str "", .str "1", .str "2", .str "12", .str "10", .str "3", .str "20", .str "100", .str "11", .str "9", .str "999", .str "21"] (some t5) none = (cutL TLS (some t5) none).map D.str := cutD_map D.str TLS _ _
    have f2 : cutD [.str "", .str "1", .str "2", .str "12", .str "10", .str "3", .str "20", .str "100", .str "11", .str "9", .str "999", .str "21"] none (some t5) = (cutL TLS none (some t5)).map D.str := cutD_map D.str TLS _ _
    obtain ⟨a1, a2, a3⟩ := turned (xs := TLS) t5r.1 (by show t5 ≤ 12; omega) (by decide)
    obtain ⟨U, hU⟩ : ∃ U, U = cutL TLS (some t5) none := ⟨_, rfl⟩
    obtain ⟨V, hV⟩ : ∃ U, U = cutL TLS none (some t5) := ⟨_, rfl⟩
    rw [← hU, ← hV] at a1 a2 a3
    rw [← hU] at f1
    rw [← hV] at f2
    have f3 : cutD (U.map D.str ++ V.map D.str) none (some 5) = (cutL (U ++ V) none (some 5)).map D.str := by rw [← List.map_append]; exact cutD_map D.str _ _ _
    obtain ⟨X, hX⟩ : ∃ X, X = cutL (U ++ V) none (some 5) := ⟨_, rfl⟩
    rw [← hX] at a2 a3 f3
    have xnd : X.Nodup := by rw [hX, hU, hV]; exact turned_nodup TLS_nd t5r.1
    have a1 : U.length + V.length ≤ 16777216 := by rw [a1]; decide
    have lc : ∀ s2 s3 s4 s5, mLc [10] (iSeq (eM (mSl (eN 7) pNo (pIx (eN 1))))) (gN 10) tTrue (eM (mBin addD (eN 6) (eN 10))) [some g.enc, some (.d (.int 5)), s2, s3, s4, s5, some (.d (.str base)), some (.lst (U.map .str ++ V.map .str)), none, none, none] = .ok (.lst (X.map fun w => .str (base ++ w))) [some g.enc, some (.d (.int 5)), s2, s3, s4, s5, some (.d (.str base)), some (.lst (U.map .str ++ V.map .str)), none, none, none] := by
      intro s2 s3 s4 s5
      have e2 := mLc_ts (own := [10]) (fi := iSeq (eM (mSl (eN 7) pNo (pIx (eN 1))))) (g := gN 10) (fe := eM (mBin addD (eN 6) (eN 10))) (S := [some g.enc, some (.d (.int 5)), s2, s3, s4, s5, some (.d (.str base)), some (.lst (U.map .str ++ V.map .str)), none, none, none]) (S1 := [some g.enc, some (.d (.int 5)), s2, s3, s4, s5, some (.d (.str base)), some (.lst (U.map .str ++ V.map .str)), none, none, none]) (ts := X) D.str (fun w => .str (base ++ w)) (by simp -dsimp [f3]) (by
        intro w hw
        have wl := (TLS_ok w (a3 w hw)).2
        refine ⟨[some g.enc, some (.d (.int 5)), s2, s3, s4, s5, some (.d (.str base)), some (.lst (U.map .str ++ V.map .str)), none, none, some (.d (.str w))], rfl, ?_⟩
        simp -dsimp [wipeS, show base.length + w.length ≤ 16777216 by omega]) (by rw [a2]; decide)
      rw [e2]
      rfl
    simp -dsimp [← hk, hl1, show 0 ≤ k by omega, show k ≤ 1000 by omega, ← hb, ← ht5, f1, f2, a1, lc]
    have e : (X.map fun w => D.str (base ++ w)) = (X.map (base ++ ·)).map D.str := by rw [List.map_map]; rfl
    rw [e]
    refine h _ _ (by rw [List.length_map]; exact a2) (fun w hw => ?_) (fun w hw => ?_) (nodup_mapO (fun x _ y _ e => app_inj e) xnd) hg
    rotate_left
    · obtain ⟨v, hv, rfl⟩ := List.mem_map.mp hw
      obtain ⟨v1, v2, v3⟩ := TLS_fig v (a3 v hv)
      have e : tl (base ++ v) = List.replicate k.toNat c ++ tl v := by rw [tl_app, btl]
      exact word_of e (fun x hx => by rw [List.eq_of_mem_replicate hx]; exact c1) v1 (by rw [List.length_replicate]; omega) (by rw [List.length_replicate]; omega) v2 v3 (not_KP1 (by omega) e v1)
    obtain ⟨v, hv, rfl⟩ := List.mem_map.mp hw
    obtain ⟨v1, v2⟩ := TLS_ok v (a3 v hv)
    exact ⟨by rw [pcs_app, bp, v1]; rfl, by rw [tl_len, tl_app, List.length_append, ← tl_len, ← tl_len]; omega⟩
  by_cases cb : way = 1
  · subst cb
    obtain ⟨t5, ht5⟩ : ∃ t : Int, t = turn.fmod 13 := ⟨_, rfl⟩
    have t5r : 0 ≤ t5 ∧ t5 < 13 := by rw [ht5, fmod_pos (by decide)]; omega
    have f1 : cutD [.str "kind", .str "far", .str "nought", .str "lack", .str "told", .str "dry", .str "refused", .str "name", .str "call", .str "number", .str "do", .str "truth", .str "root"] (some t5) none = (cutL KPS (some t5) none).map D.str := cutD_map D.str KPS _ _
    have f2 : cutD [.str "kind", .str "far", .str "nought", .str "lack", .str "told", .str "dry", .str "refused", .str "name", .str "call", .str "number", .str "do", .str "truth", .str "root"] none (some t5) = (cutL KPS none (some t5)).map D.str := cutD_map D.str KPS _ _
    obtain ⟨a1, a2, a3⟩ := turned (xs := KPS) t5r.1 (by show t5 ≤ 13; omega) (by decide)
    obtain ⟨U, hU⟩ : ∃ U, U = cutL KPS (some t5) none := ⟨_, rfl⟩
    obtain ⟨V, hV⟩ : ∃ U, U = cutL KPS none (some t5) := ⟨_, rfl⟩
    rw [← hU, ← hV] at a1 a2 a3
    rw [← hU] at f1
    rw [← hV] at f2
    have f3 : cutD (U.map D.str ++ V.map D.str) none (some 5) = (cutL (U ++ V) none (some 5)).map D.str := by rw [← List.map_append]; exact cutD_map D.str _ _ _
    obtain ⟨X, hX⟩ : ∃ X, X = cutL (U ++ V) none (some 5) := ⟨_, rfl⟩
    rw [← hX] at a2 a3 f3
    have xnd : X.Nodup := by rw [hX, hU, hV]; exact turned_nodup KPS_nd t5r.1
    have a1 : U.length + V.length ≤ 16777216 := by rw [a1]; decide
    simp -dsimp [← hk, hl1, show 0 ≤ k by omega, show k ≤ 1000 by omega, ← hb, ← ht5, f1, f2, a1, f3]
    refine h _ _ a2 (fun w hw => ?_) (fun w hw => KPS_word w (a3 w hw)) xnd hg
    obtain ⟨v1, v2⟩ := KPS_ok w (a3 w hw)
    exact ⟨v1, by omega⟩
  by_cases cc : way = 2
  · subst cc
    have way2 : ∀ (base2 : Str) (at_ : Int) (s3 s4 : Option M), tl base2 = List.replicate base2.length c → base2.length ≠ 2 → pcs base2 = true → base2.length ≤ 8 → 0 ≤ at_ → at_ < (base2.length : Int) → ∃ X : List Str, X.length = 5 ∧ (∀ w ∈ X, Wd w) ∧ (∀ w ∈ X, wordB w = true) ∧ X.Nodup ∧
        mLc [9] (iRng1 (eN 1)) (gN 9) tTrue (eM (mBin addD (eM (mBin addD (eM (mSl (eN 6) pNo (pIx (eN 8)))) (eM (mBin ixD (eN 2) (eM (mBin modD (eM (mBin addD (eN 5) (eN 9))) (eC (.int 26)))))))) (eM (mSl (eN 6) (pIx (eM (mBin addD (eN 8) (eC (.int 1))))) pNo)))) [some g.enc, some (.d (.int 5)), some (.d (.str "abcdefghijklmnopqrstuvwxyz")), s3, s4, some (.d (.int turn)), some (.d (.str base2)), none, some (.d (.int at_)), none, none] = .ok (.lst (X.map .str)) [some g.enc, some (.d (.int 5)), some (.d (.str "abcdefghijklmnopqrstuvwxyz")), s3, s4, some (.d (.int turn)), some (.d (.str base2)), none, some (.d (.int at_)), none, none] := by
      intro base2 at_ s3 s4 tb2 n2 p2 l2 h0 h1
      obtain ⟨m, rfl⟩ : ∃ m : Nat, at_ = (m : Int) := ⟨at_.toNat, by omega⟩
      obtain ⟨A, hA⟩ : ∃ A : Str, A = cutS base2 none (some (m : Int)) := ⟨_, rfl⟩
      obtain ⟨B, hB⟩ : ∃ A : Str, A = cutS base2 (some ((m : Int) + 1)) none := ⟨_, rfl⟩
      have al : A.length = m := by rw [hA]; exact cutS_ahead _ _ (by omega)
      have bl2 : B.length = base2.length - (m + 1) := by rw [hB, show ((m : Int) + 1) = ((m + 1 : Nat) : Int) by omega]; exact cutS_behind _ _ (by omega)
      have ap : pcs A = true := by rw [hA]; exact pcs_cut p2 _ _
      have bp2 : pcs B = true := by rw [hB]; exact pcs_cut p2 _ _
      have lr : ∀ j : Nat, 0 ≤ (turn + (j : Int)).fmod 26 ∧ (turn + (j : Int)).fmod 26 < 26 := fun j => by rw [fmod_pos (by decide)]; omega
      have at1 : ∀ x ∈ tl A, x = c := fun x hx => by
        rw [hA] at hx
        have := cutS_mem hx
        rw [tb2] at this
        exact List.eq_of_mem_replicate this
      have bt1 : ∀ x ∈ tl B, x = c := fun x hx => by
        rw [hB] at hx
        have := cutS_mem hx
        rw [tb2] at this
        exact List.eq_of_mem_replicate this
      have tw : ∀ q : Nat, tl (A ++ (⟨#[q]⟩ : Str) ++ B) = (tl A ++ [q] ++ tl B) ++ [] := fun q => by rw [tl_app, tl_app, tl_one, List.append_nil]
      refine ⟨(List.range 5).map fun j : Nat => A ++ (⟨#[97 + ((turn + (j : Int)).fmod 26).toNat]⟩ : Str) ++ B, by rw [List.length_map, List.length_range], fun w hw => ?_, fun w hw => ?_, nodup_mapO (fun i hi j hj e => ?_) List.nodup_range, ?_⟩
      rotate_left
      · obtain ⟨j, _, rfl⟩ := List.mem_map.mp hw
        have := lr j
        have ll : (tl A ++ [97 + ((turn + (j : Int)).fmod 26).toNat] ++ tl B).length = base2.length := by
          rw [List.length_append, List.length_append, ← tl_len, ← tl_len, al, bl2, List.length_singleton]
          omega
        have lel : ∀ x ∈ tl A ++ [97 + ((turn + (j : Int)).fmod 26).toNat] ++ tl B, x = c ∨ x = 97 + ((turn + (j : Int)).fmod 26).toNat := by
          intro x hx
          rcases List.mem_append.mp hx with hx | hx
          · rcases List.mem_append.mp hx with hx | hx
            · exact .inl (at1 x hx)
            · exact .inr (List.mem_singleton.mp hx)
          · exact .inl (bt1 x hx)
        refine word_of (tw _) (fun x hx => ?_) (by simp) (by omega) (by omega) (by simp) (by simp) (not_KP2 (c := c) (d := 97 + ((turn + (j : Int)).fmod 26).toNat) (tw _) ?_ (by rw [tw, List.append_nil, ll]; exact n2))
        · rcases lel x hx with e | e
          · rw [e]; exact c1
          · omega
        · intro x hx
          rw [tw, List.append_nil] at hx
          exact lel x hx
      · have hi := List.mem_range.mp hi
        have hj := List.mem_range.mp hj
        have e2 := congrArg tl e
        rw [tw, tw, List.append_nil, List.append_nil] at e2
        have e3 := List.append_cancel_left (List.append_cancel_right e2)
        have e4 := (List.cons.inj e3).1
        have a := lr i
        have b := lr j
        have m1 := fmod_pos (a := turn + (i : Int)) (b := 26) (by decide)
        have m2 := fmod_pos (a := turn + (j : Int)) (b := 26) (by decide)
        omega
      rotate_left
      · obtain ⟨j, _, rfl⟩ := List.mem_map.mp hw
        have := lr j
        refine ⟨by rw [pcs_app, pcs_app, ap, bp2, pcs_one (by omega)]; rfl, ?_⟩
        rw [len_app, len_app, al, bl2]
        show m + 1 + _ ≤ 12
        omega
      · have e2 := mLc_ts (own := [9]) (fi := iRng1 (eN 1)) (g := gN 9) (fe := eM (mBin addD (eM (mBin addD (eM (mSl (eN 6) pNo (pIx (eN 8)))) (eM (mBin ixD (eN 2) (eM (mBin modD (eM (mBin addD (eN 5) (eN 9))) (eC (.int 26)))))))) (eM (mSl (eN 6) (pIx (eM (mBin addD (eN 8) (eC (.int 1))))) pNo)))) (S := [some g.enc, some (.d (.int 5)), some (.d (.str "abcdefghijklmnopqrstuvwxyz")), s3, s4, some (.d (.int turn)), some (.d (.str base2)), none, some (.d (.int (m : Int))), none, none]) (S1 := [some g.enc, some (.d (.int 5)), some (.d (.str "abcdefghijklmnopqrstuvwxyz")), s3, s4, some (.d (.int turn)), some (.d (.str base2)), none, some (.d (.int (m : Int))), none, none]) (ts := List.range 5) (fun j : Nat => D.int (j : Int)) (fun j : Nat => .str (A ++ (⟨#[97 + ((turn + (j : Int)).fmod 26).toNat]⟩ : Str) ++ B)) (by rw [← rng5]; simp -dsimp) (by
          intro j hj
          obtain ⟨q, hq⟩ : ∃ q : Int, q = (turn + (j : Int)).fmod 26 := ⟨_, rfl⟩
          have hr := lr j
          rw [← hq] at hr ⊢
          have ai := abc_is q hr.1 hr.2
          refine ⟨[some g.enc, some (.d (.int 5)), some (.d (.str "abcdefghijklmnopqrstuvwxyz")), s3, s4, some (.d (.int turn)), some (.d (.str base2)), none, some (.d (.int (m : Int))), some (.d (.int (j : Int))), none], rfl, ?_⟩
          have b16 : base2.length ≤ 16777216 := by omega
          have ab : A.length + Str.length ⟨#[97 + q.toNat]⟩ ≤ 16777216 := by rw [al]; show m + 1 ≤ _; omega
          have abb : A.length + Str.length ⟨#[97 + q.toNat]⟩ + B.length ≤ 16777216 := by rw [al, bl2]; show m + 1 + _ ≤ _; omega
          simp -dsimp [wipeS, ← hq, ai, abc_len, b16, ← hA, ← hB, ab, abb]) (by rw [List.length_range]; decide)
        rw [e2, List.map_map]
        rfl
    have b16 : base.length ≤ 16777216 := by omega
    have b10 : base.length ≤ 1000 := by omega
    obtain ⟨L, hL⟩ : ∃ L : Int, L = (base.length : Int) := ⟨_, rfl⟩
    have ln : lenD (.str base) = some (.d (.int L)) := by
      show (if base.length ≤ line then some (M.d (.int base.length)) else none) = _
      rw [if_pos (show base.length ≤ line from b16), hL]
    by_cases c2 : base.length = 2
    · have cL : L = 2 := by omega
      obtain ⟨R, hR⟩ : ∃ R : Str, R = repS base 1 := ⟨_, rfl⟩
      have rl : R.length = 2 := by rw [hR, repS_len]; omega
      have rp : pcs R = true := by
        rw [hR]
        unfold pcs
        rw [tl_rep, List.all_eq_true]
        intro x hx
        obtain ⟨l, hl, hx⟩ := List.mem_flatten.mp hx
        obtain ⟨_, rfl⟩ := List.mem_replicate.mp hl
        exact List.all_eq_true.mp bp x hx
      obtain ⟨a, ha⟩ : ∃ a : Int, a = turn.fmod 4 := ⟨_, rfl⟩
      have ar : 0 ≤ a ∧ a < 4 := by rw [ha, fmod_pos (by decide)]; omega
      have l4 : (base ++ R).length = 4 := by rw [len_app, rl, c2]
      have ln2 : lenD (.str (base ++ R)) = some (.d (.int 4)) := by
        show (if (base ++ R).length ≤ line then some (M.d (.int (base ++ R).length)) else none) = _
        rw [l4]
        rfl
      obtain ⟨X, x1, x2, x3, x4, lc⟩ := way2 (base ++ R) a (some (.lst [.str "kind", .str "far", .str "nought", .str "lack", .str "told", .str "dry", .str "refused", .str "name", .str "call", .str "number", .str "do", .str "truth", .str "root"])) (some (.d (.int 2))) (by rw [tl_app, hR, tl_rep, tl_len (base ++ repS base _), tl_app, tl_rep, btl]; first | exact rep_two _ _ | exact rep_nil _ _) (by omega) (by rw [pcs_app, bp, rp]; rfl) (by omega) ar.1 (by rw [l4]; omega)
      simp -dsimp [← hk, hl1, show 0 ≤ k by omega, show k ≤ 1000 by omega, ← hb, b16, b10, ln, ln2, cL, c2, rl, ← hR, ← ha, lc]
      exact h X g x1 x2 x3 x4 hg
    · have cL : ¬ L = 2 := by omega
      obtain ⟨R, hR⟩ : ∃ R : Str, R = repS base 0 := ⟨_, rfl⟩
      have rl : R.length = 0 := by rw [hR, repS_len]; omega
      have rp : pcs R = true := by
        rw [hR]
        unfold pcs
        rw [tl_rep, List.all_eq_true]
        intro x hx
        obtain ⟨l, hl, hx⟩ := List.mem_flatten.mp hx
        obtain ⟨_, rfl⟩ := List.mem_replicate.mp hl
        exact List.all_eq_true.mp bp x hx
      obtain ⟨a, ha⟩ : ∃ a : Int, a = turn.fmod L := ⟨_, rfl⟩
      have ar : 0 ≤ a ∧ a < L := by
        rw [ha, fmod_pos (by omega)]
        exact ⟨Int.emod_nonneg _ (by omega), Int.emod_lt_of_pos _ (by omega)⟩
      have l4 : (base ++ R).length = base.length := by rw [len_app, rl]; rfl
      have ln2 : lenD (.str (base ++ R)) = some (.d (.int L)) := by
        show (if (base ++ R).length ≤ line then some (M.d (.int (base ++ R).length)) else none) = _
        rw [l4, if_pos (show base.length ≤ line from b16), hL]
      obtain ⟨X, x1, x2, x3, x4, lc⟩ := way2 (base ++ R) a (some (.lst [.str "kind", .str "far", .str "nought", .str "lack", .str "told", .str "dry", .str "refused", .str "name", .str "call", .str "number", .str "do", .str "truth", .str "root"])) (some (.d (.int 2))) (by rw [tl_app, hR, tl_rep, tl_len (base ++ repS base _), tl_app, tl_rep, btl]; first | exact rep_two _ _ | exact rep_nil _ _) (by omega) (by rw [pcs_app, bp, rp]; rfl) (by omega) ar.1 (by rw [l4]; omega)
      simp -dsimp [← hk, hl1, show 0 ≤ k by omega, show k ≤ 1000 by omega, ← hb, b16, b10, ln, ln2, cL, c2, rl, show ¬ L = 0 by omega, ← hR, ← ha, lc]
      exact h X g x1 x2 x3 x4 hg
  have c3 : way = 3 := by omega
  subst c3
  have d3 : divOk 3 = true := divOk_of (by decide) (by decide)
  obtain ⟨tail, htail⟩ : ∃ T : Int → Str, ∀ r : Int, 0 ≤ r ∧ r < 3 → pcs (T r) = true ∧ ((T r).length : Int) = r ∧ (∀ x ∈ tl (T r), 48 ≤ x ∧ x ≤ 57) ∧ (tl (T r)).head? ≠ some 48 ∧ atI [D.str "", .str "1", .str "12"] r = some (.str (T r)) := by
    refine ⟨fun r => if r = 0 then "" else if r = 1 then "1" else "12", fun r hr => ?_⟩
    have : r = 0 ∨ r = 1 ∨ r = 2 := by omega
    rcases this with e | e | e <;> subst e
    · exact ⟨by decide +kernel, by decide +kernel, by decide +kernel, by decide +kernel, by simp⟩
    · exact ⟨by decide +kernel, by decide +kernel, by decide +kernel, by decide +kernel, by simp⟩
    · exact ⟨by decide +kernel, by decide +kernel, by decide +kernel, by decide +kernel, by simp⟩
  have qr : ∀ j : Nat, 0 ≤ (turn + (j : Int).fdiv 3).fmod 26 ∧ (turn + (j : Int).fdiv 3).fmod 26 < 26 := fun j => by rw [fmod_pos (by decide)]; omega
  have rr : ∀ j : Nat, 0 ≤ (j : Int).fmod 3 ∧ (j : Int).fmod 3 < 3 := fun j => by rw [fmod_pos (by decide)]; omega
  have lc : ∀ s3 s4, mLc [9] (iRng1 (eN 1)) (gN 9) tTrue (eM (mBin addD (eM (mBin ixD (eN 2) (eM (mBin modD (eM (mBin addD (eN 5) (eM (mBin fdivD (eN 9) (eC (.int 3)))))) (eC (.int 26)))))) (eM (mBin ixD (eM (mLst (aCons (eC (.str "")) (aCons (eC (.str "1")) (aCons (eC (.str "12")) aNil))))) (eM (mBin modD (eN 9) (eC (.int 3)))))))) [some g.enc, some (.d (.int 5)), some (.d (.str "abcdefghijklmnopqrstuvwxyz")), s3, s4, some (.d (.int turn)), some (.d (.str base)), none, none, none, none] = .ok (.lst ((List.range 5).map fun j : Nat => .str ((⟨#[97 + ((turn + (j : Int).fdiv 3).fmod 26).toNat]⟩ : Str) ++ tail ((j : Int).fmod 3)))) [some g.enc, some (.d (.int 5)), some (.d (.str "abcdefghijklmnopqrstuvwxyz")), s3, s4, some (.d (.int turn)), some (.d (.str base)), none, none, none, none] := by
    intro s3 s4
    have e2 := mLc_ts (own := [9]) (fi := iRng1 (eN 1)) (g := gN 9) (fe := eM (mBin addD (eM (mBin ixD (eN 2) (eM (mBin modD (eM (mBin addD (eN 5) (eM (mBin fdivD (eN 9) (eC (.int 3)))))) (eC (.int 26)))))) (eM (mBin ixD (eM (mLst (aCons (eC (.str "")) (aCons (eC (.str "1")) (aCons (eC (.str "12")) aNil))))) (eM (mBin modD (eN 9) (eC (.int 3)))))))) (S := [some g.enc, some (.d (.int 5)), some (.d (.str "abcdefghijklmnopqrstuvwxyz")), s3, s4, some (.d (.int turn)), some (.d (.str base)), none, none, none, none]) (S1 := [some g.enc, some (.d (.int 5)), some (.d (.str "abcdefghijklmnopqrstuvwxyz")), s3, s4, some (.d (.int turn)), some (.d (.str base)), none, none, none, none]) (ts := List.range 5) (fun j : Nat => D.int (j : Int)) (fun j : Nat => .str ((⟨#[97 + ((turn + (j : Int).fdiv 3).fmod 26).toNat]⟩ : Str) ++ tail ((j : Int).fmod 3))) (by rw [← rng5]; simp -dsimp) (by
      intro j hj
      obtain ⟨p1, p2, _, _, hT⟩ := htail _ (rr j)
      have hr := qr j
      obtain ⟨q, hq⟩ : ∃ q : Int, q = (turn + (j : Int).fdiv 3).fmod 26 := ⟨_, rfl⟩
      obtain ⟨u, hu⟩ : ∃ q : Int, q = (j : Int).fmod 3 := ⟨_, rfl⟩
      rw [← hq] at hr ⊢
      have hru := rr j
      rw [← hu] at p1 p2 hT hru ⊢
      have ai := abc_is q hr.1 hr.2
      have ab : Str.length ⟨#[97 + q.toNat]⟩ + (tail u).length ≤ 16777216 := by show 1 + _ ≤ _; omega
      refine ⟨[some g.enc, some (.d (.int 5)), some (.d (.str "abcdefghijklmnopqrstuvwxyz")), s3, s4, some (.d (.int turn)), some (.d (.str base)), none, none, some (.d (.int (j : Int))), none], rfl, ?_⟩
      simp -dsimp [wipeS, d3, ← hq, ← hu, ai, abc_len, hT, ab]) (by rw [List.length_range]; decide)
    rw [e2]
    rfl
  simp -dsimp [← hk, hl1, show 0 ≤ k by omega, show k ≤ 1000 by omega, ← hb, lc]
  have e : ((List.range 5).map fun j : Nat => D.str ((⟨#[97 + ((turn + (j : Int).fdiv 3).fmod 26).toNat]⟩ : Str) ++ tail ((j : Int).fmod 3))) = ((List.range 5).map fun j : Nat => ((⟨#[97 + ((turn + (j : Int).fdiv 3).fmod 26).toNat]⟩ : Str) ++ tail ((j : Int).fmod 3))).map D.str := by rw [List.map_map]; rfl
  rw [e]
  refine h _ g (by rw [List.length_map, List.length_range]) (fun w hw => ?_) (fun w hw => ?_) (nodup_mapO (fun i hi j hj e => ?_) List.nodup_range) hg
  rotate_left
  · obtain ⟨j, _, rfl⟩ := List.mem_map.mp hw
    obtain ⟨_, p2, p3, p4, _⟩ := htail _ (rr j)
    have hr := qr j
    have hru := rr j
    obtain ⟨q, hq⟩ : ∃ q : Nat, q = 97 + ((turn + (j : Int).fdiv 3).fmod 26).toNat := ⟨_, rfl⟩
    rw [← hq]
    have e : tl ((⟨#[q]⟩ : Str) ++ tail ((j : Int).fmod 3)) = List.replicate 1 q ++ tl (tail ((j : Int).fmod 3)) := by rw [tl_app, tl_one]; rfl
    exact word_of e (fun x hx => by rw [List.eq_of_mem_replicate hx]; omega) p3 (by simp) (by simp) (by rw [← tl_len]; omega) p4 (not_KP1 (by omega) e p3)
  · have hi := List.mem_range.mp hi
    have hj := List.mem_range.mp hj
    have e2 := congrArg tl e
    rw [tl_app, tl_app, tl_one, tl_one] at e2
    obtain ⟨e3, e4⟩ := List.cons.inj (show _ :: tl (tail ((i : Int).fmod 3)) = _ :: tl (tail ((j : Int).fmod 3)) from e2)
    have e5 := congrArg List.length e4
    rw [← tl_len, ← tl_len] at e5
    have a1 := (htail _ (rr i)).2.1
    have a2 := (htail _ (rr j)).2.1
    have a := qr i
    have b := qr j
    have m1 := fmod_pos (a := turn + (i : Int).fdiv 3) (b := 26) (by decide)
    have m2 := fmod_pos (a := turn + (j : Int).fdiv 3) (b := 26) (by decide)
    have m3 := fmod_pos (a := (i : Int)) (b := 3) (by decide)
    have m4 := fmod_pos (a := (j : Int)) (b := 3) (by decide)
    have m5 := fdiv_pos (a := (i : Int)) (b := 3) (by decide)
    have m6 := fdiv_pos (a := (j : Int)) (b := 3) (by decide)
    omega
  obtain ⟨j, _, rfl⟩ := List.mem_map.mp hw
  obtain ⟨p1, p2, _⟩ := htail _ (rr j)
  have hru := rr j
  have hr := qr j
  exact ⟨by rw [pcs_app, pcs_one (by omega), p1]; rfl, by rw [len_app]; show 1 + _ ≤ 12; omega⟩
def Kd.bare : Kd → Bool
  | .num _ | .tru _ | .nam _ => true
  | _ => false
theorem ne_unit {x : D} {xs : List D} (h : (D.tup (x :: xs)).pl = true) : neD (.tup (x :: xs)) (.tup []) = some (.d (.bl true)) := by
  rw [neD_ap, eqOk_ap, h, if_pos (show (true && (D.tup []).pl && decide (min (D.tup (x :: xs)).dep (D.tup []).dep ≤ 190)) = true by
    have : min (D.tup (x :: xs)).dep (D.tup []).dep ≤ 190 := Nat.le_trans (Nat.min_le_right _ _) (by decide)
    rw [decide_eq_true this]; rfl)]
  rfl
theorem eq_unit {x : D} {xs : List D} (h : (D.tup (x :: xs)).pl = true) : eqD (.tup (x :: xs)) (.tup []) = some (.d (.bl false)) := by
  rw [eqD_ap, eqOk_ap, h, if_pos (show (true && (D.tup []).pl && decide (min (D.tup (x :: xs)).dep (D.tup []).dep ≤ 190)) = true by
    have : min (D.tup (x :: xs)).dep (D.tup []).dep ≤ 190 := Nat.le_trans (Nat.min_le_right _ _) (by decide)
    rw [decide_eq_true this]; rfl)]
  rfl
theorem mk_tup (k : Kd) (ds : List D) : ∃ es, k.mk ds = .tup (.str k.nm :: es) := by cases k <;> exact ⟨_, rfl⟩
theorem PLAIN_eq : c_PLAIN = .tup ((["number", "truth", "name"] : List Str).map D.str) := rfl
theorem SIGNS_eq : c_SIGNS = .tup (SG.map D.str) := rfl
theorem bare_nm (k : Kd) : decide (k.nm ∈ (["number", "truth", "name"] : List Str)) = k.bare := by
  cases k <;> simp [Kd.nm, Kd.bare]
theorem bare_eq (n : Nat) (t : Tr) (hp : t.d.pl = true) (k : Kd) (hk : ∃ xs, t = .nd k xs) : den (n + 1) "is_bare" [.d t.d] = .ok (.d (.bl k.bare)) [some (.d t.d)] := by
  obtain ⟨xs, rfl⟩ := hk
  obtain ⟨es, e⟩ := mk_tup k (Tr.ds xs)
  have e : (Tr.nd k xs).d = .tup (.str k.nm :: es) := e
  rw [e] at hp ⊢
  have h1 := ne_unit hp
  have h2 : inD (.str k.nm) c_PLAIN = some (.d (.bl k.bare)) := by
    rw [PLAIN_eq, inD_strT, bare_nm]
  refine eq_of_wp ?_
  rw [den_is_bare]
  refine run_wp rfl ?_
  unfold b_is_bare
  simp -dsimp [List.replicate, isiK, ↓h1, h2, atI_0]
theorem row_eq (n : Nat) (ds : List D) (h : ds.length ≤ 4) : den (n + 1) "is_row" [.d (.tup ds)] = .ok (.d (.bl true)) [some (.d (.tup ds))] := by
  refine eq_of_wp ?_
  rw [den_is_row]
  refine run_wp rfl ?_
  unfold b_is_row
  simp -dsimp [List.replicate, isiK, c_MOST_ARGS, show (ds.length : Int) ≤ 4 by omega]
theorem ft_eq (n : Nat) (i a b : Int) (h1 : a ≤ i) (h2 : i ≤ b) : den (n + 2) "is_from_to" [.d (.int i), .d (.int a), .d (.int b)] = .ok (.d (.bl true)) [some (.d (.int i)), some (.d (.int a)), some (.d (.int b))] := by
  have hw : den (n + 1) "is_whole" [.d (.int i)] = .ok (.d (.bl true)) [some (.d (.int i))] := by
    rw [den_is_whole]
    unfold g_is_whole b_is_whole
    simp -dsimp [List.replicate, isiK]
  refine eq_of_wp ?_
  rw [den_is_from_to]
  refine run_wp rfl ?_
  unfold b_is_from_to
  simp -dsimp [List.replicate, hw, h1, h2]
/-- kinds that has_words is asked of -/
def Kd.named : Kd → Prop
  | .nam _ | .rai _ | .let_ _ | .loop _ _ | .try_ _ | .call _ | .melt _ _ => True
  | _ => False
theorem hasw_eq (n : Nat) (k : Kd) (ds : List D) (har : k.ar ds.length) (hw : k.wk) (ht : k.tk ds.length) (hk : k.named) :
    den (n + 3) "has_words" [.d (k.mk ds)] = .ok (.d (.bl true)) [some (.d (k.mk ds))] := by
  have we : ∀ w : Str, Wd w → wordB w = true → den (n + 2) "is_word" [.d (.str w)] = .ok (.d (.bl true)) [some (.d (.str w))] := fun w h1 h2 => by
    rw [word_eq n w (by have := h1.2; omega), h2]
  refine eq_of_wp ?_
  rw [den_has_words]
  refine run_wp rfl ?_
  unfold b_has_words
  cases k with
  | nam w =>
    have e := we w hw ht
    have m : (Kd.nam w).mk ds = .tup [.str "name", .str w] := rfl
    rw [m]
    simp -dsimp [List.replicate, e]
  | rai w =>
    have e := we w hw ht
    have m : (Kd.rai w).mk ds = .tup [.str "raise", .str w] := rfl
    rw [m]
    simp -dsimp [List.replicate, e]
  | let_ w =>
    have e := we w hw ht
    have m : (Kd.let_ w).mk ds = .tup (.str "let" :: .str w :: ds) := rfl
    rw [m]
    simp -dsimp [List.replicate, e]
  | loop w w2 =>
    have e := we w hw.1 ht.1
    have e2 := we w2 hw.2 ht.2.1
    have ne : (w == w2) = false := by simpa using ht.2.2
    have m : (Kd.loop w w2).mk ds = .tup [.str "loop", .str w, ds.getD 0 .non, .str w2, ds.getD 1 .non, ds.getD 2 .non] := rfl
    rw [m]
    simp -dsimp [List.replicate, e, e2, ne]
  | try_ w =>
    have e := we w hw ht
    have m : (Kd.try_ w).mk ds = .tup [.str "try", ds.getD 0 .non, .str w, ds.getD 1 .non] := rfl
    rw [m]
    simp -dsimp [List.replicate, e]
  | call w =>
    have e := we w hw ht.1
    have m : (Kd.call w).mk ds = .tup [.str "call", .str w, .tup ds] := rfl
    rw [m]
    simp -dsimp [List.replicate, e]
  | melt w ws =>
    have e := we w hw.1 ht.1
    obtain ⟨es, l, m⟩ : ∃ es l, (Kd.melt w ws).mk ds = .tup [.str "melt", .str w, .tup es, l] := ⟨_, _, rfl⟩
    rw [m]
    simp -dsimp [List.replicate, e]
  | _ => exact (show False from hk).elim
/-- a comprehension with a test over things that are told by others -/
theorem lcL_tf {α : Type} {own : List Nat} {g : FG} {t : FB} {fe : FE} (a b : α → D) (p : α → Bool) (S0 : SS) : ∀ (ts : List α) (S : SS) (acc : List D), wipeS S own = S0 →
    (∀ x ∈ ts, ∃ S2, g (a x) S0 = some S2 ∧ (t S2).wp fun c S3 => c = p x ∧ (c = false → wipeS S3 own = S0) ∧ (c = true → (fe S3).wp fun o S4 => ∃ S5, force o S4 = some (b x, S5) ∧ wipeS S5 own = S0)) →
    acc.length + ts.length ≤ line → ∃ S', lcL own g t fe (ts.map a) S acc = .ok (acc ++ (ts.filter p).map b) S' ∧ wipeS S' own = S0
  | [], S, acc, hS, _, _ => ⟨S, by simp [lcL], hS⟩
  | x :: ts, S, acc, hS, h, hl => by
    obtain ⟨S2, h1, h2⟩ := h x (List.mem_cons_self ..)
    have hr := fun y hy => h y (List.mem_cons_of_mem _ hy)
    simp only [List.length_cons] at hl
    obtain ⟨c, S3, e, h3, h4, h5⟩ := R.wp_ok' h2
    show ∃ S', (match g (a x) (wipeS S own) with
      | none => R.no
      | some S1 => (t S1).bind fun b S2 => if b = true then (fe S2).bind fun o S3 => (match force o S3 with
          | some (x, S4) => if acc.length < line then lcL own g t fe (ts.map a) S4 (acc ++ [x]) else .no
          | none => .no) else lcL own g t fe (ts.map a) S2 acc) = _ ∧ wipeS S' own = S0
    rw [hS, h1]
    dsimp only
    rw [e, bind_ok]
    cases c with
    | false =>
      rw [if_neg (by decide), List.filter_cons_of_neg (by rw [← h3]; decide)]
      exact lcL_tf a b p S0 ts S3 acc (h4 rfl) hr (by omega)
    | true =>
      obtain ⟨o, S4, e2, S5, h6, h7⟩ := R.wp_ok' (h5 rfl)
      rw [if_pos rfl, e2, bind_ok, h6, List.filter_cons_of_pos h3.symm]
      dsimp only
      rw [if_pos (Nat.lt_of_lt_of_le (show acc.length < acc.length + (ts.length + 1) by omega) hl)]
      obtain ⟨S', e1, e2⟩ := lcL_tf a b p S0 ts S5 (acc ++ [b x]) h7 hr (by rw [List.length_append, List.length_singleton]; omega)
      exact ⟨S', by rw [e1]; simp, e2⟩
theorem mLc_tf {α : Type} {own : List Nat} {fi : FI} {g : FG} {t : FB} {fe : FE} {S S1 : SS} {ts : List α} (a b : α → D) (p : α → Bool) (h : fi S = .ok (ts.map a) S1)
    (hs : ∀ x ∈ ts, ∃ S2, g (a x) (wipeS S1 own) = some S2 ∧ (t S2).wp fun c S3 => c = p x ∧ (c = false → wipeS S3 own = wipeS S1 own) ∧ (c = true → (fe S3).wp fun o S4 => ∃ S5, force o S4 = some (b x, S5) ∧ wipeS S5 own = wipeS S1 own))
    (hl : ts.length ≤ line) : mLc own fi g t fe S = .ok (.lst ((ts.filter p).map b)) (restS S1 S1 own) := by
  unfold mLc
  rw [h, bind_ok]
  obtain ⟨S', e1, e2⟩ := lcL_tf a b p (wipeS S1 own) ts S1 [] rfl hs (by simpa using hl)
  rw [e1, bind_ok, List.nil_append]
  rw [← restS_wipe S1 S', e2, restS_wipe]
def Tr.bare : Tr → Bool
  | .nd k _ => k.bare
theorem bare_t (n : Nat) (t : Tr) (hp : t.d.pl = true) : den (n + 1) "is_bare" [.d t.d] = .ok (.d (.bl t.bare)) [some (.d t.d)] := by
  cases t with
  | nd k xs => exact bare_eq n (.nd k xs) hp k ⟨xs, rfl⟩
theorem pairs_eq (n : Nat) (ws : List Str) (ys : List Tr) (hl : ys.length = ws.length) (h4 : ws.length ≤ 4) (hw : ∀ w ∈ ws, Wd w) (hb : ∀ w ∈ ws, wordB w = true) (hn : ws.Nodup) (hp : ∀ y ∈ ys, y.d.pl = true) :
    den (n + 3) "are_pairs" [.d (.tup (prs ws (Tr.ds ys)))] = .ok (.d (.bl true)) [some (.d (.tup (prs ws (Tr.ds ys))))] := by
  have hlen : (prs ws (Tr.ds ys)).length = ws.length := prs_len (by rw [ds_len]; exact hl)
  have re := row_eq (n + 1) (prs ws (Tr.ds ys)) (by omega)
  have zl : (List.zip ws ys).length = ws.length := by rw [List.length_zip, hl]; exact Nat.min_self _
  obtain ⟨vs, hvs⟩ : ∃ vs : List Str, vs = ((List.zip ws ys).filter fun p => !p.2.bare).map (·.1) := ⟨_, rfl⟩
  have vsub : vs.Sublist ws := by
    have e : (List.zip ws ys).map (·.1) = ws := by
      rw [List.map_fst_zip (by omega)]
    have s : vs.Sublist ((List.zip ws ys).map (·.1)) := by
      rw [hvs]
      exact (List.filter_sublist ..).map _
    rw [e] at s
    exact s
  have vn : vs.Nodup := hn.sublist vsub
  have vl : vs.length ≤ 4 := Nat.le_trans vsub.length_le h4
  have ls := lenSet_strs vs (by omega)
  rw [ddl_nodup vn] at ls
  obtain ⟨P, hP⟩ : ∃ P, P = prs ws (Tr.ds ys) := ⟨_, rfl⟩
  have lc : ∀ s1, mLc [3, 4] (iSeq (eN 0)) (gT 2 (gsCons (gN 3) (gsCons (gN 4) gsNil))) (tNot' (tM (mCall (den (n + 2) "is_bare") (aCons (eN 4) aNil)))) (eN 3) [some (.d (.tup P)), s1, none, none, none] = .ok (.lst (vs.map .str)) [some (.d (.tup P)), s1, none, none, none] := by
    intro s1
    have e2 := mLc_tf (own := [3, 4]) (fi := iSeq (eN 0)) (g := gT 2 (gsCons (gN 3) (gsCons (gN 4) gsNil))) (t := tNot' (tM (mCall (den (n + 2) "is_bare") (aCons (eN 4) aNil)))) (fe := eN 3) (S := [some (.d (.tup P)), s1, none, none, none]) (S1 := [some (.d (.tup P)), s1, none, none, none]) (ts := List.zip ws ys) (fun p => D.tup [.str p.1, p.2.d]) (fun p => .str p.1) (fun p => !p.2.bare) (by
      rw [hP, prs_zip]
      simp -dsimp) (by
      intro p hp2
      have hy := hp p.2 (zip_mem hp2)
      have be := bare_t (n + 1) p.2 hy
      refine ⟨[some (.d (.tup P)), s1, none, some (.d (.str p.1)), some (.d p.2.d)], rfl, ?_⟩
      simp -dsimp [be, wipeS]) (by rw [zl]; show _ ≤ 16777216; omega)
    rw [e2, hvs, List.map_map]
    rfl
  rw [← hP] at re hlen ⊢
  refine eq_of_wp ?_
  rw [den_are_pairs]
  refine run_wp rfl ?_
  unfold b_are_pairs
  simp -dsimp [List.replicate, re]
  obtain ⟨J, hJ⟩ : ∃ J : SS → Prop, J = fun S => ∃ (s1 : Option Ev.M), S = [some (.d (.tup P)), s1, none, none, none] := ⟨_, rfl⟩
  refine wp_for1 (fun d => ∃ w y, d = .tup [.str w, y] ∧ Wd w ∧ wordB w = true) J (fun d hd => ?_) (by rw [hJ]; exact ⟨_, rfl⟩) ?_ ?_
  · rw [hP] at hd
    obtain ⟨w, x, e, _, hx⟩ := prs_mem hd
    exact ⟨w, x, e, hw w hx, hb w hx⟩
  · rintro d S ⟨w, y, rfl, h1, h2⟩ hS
    rw [hJ] at hS
    obtain ⟨s1, rfl⟩ := hS
    have we : den (n + 2) "is_word" [.d (.str w)] = .ok (.d (.bl true)) [some (.d (.str w))] := by
      rw [word_eq n w (by have := h1.2; omega), h2]
    refine ⟨[some (.d (.tup P)), some (.d (.tup [.str w, y])), none, none, none], rfl, ?_⟩
    simp -dsimp [isiK, we]
    rw [hJ]
    exact ⟨_, rfl⟩
  · intro S hS
    rw [hJ] at hS
    obtain ⟨s1, rfl⟩ := hS
    simp -dsimp [lc, ls, show vs.length ≤ 16777216 by omega]
theorem counted_eq (n : Nat) (w : Str) (ws : List Str) (ys : List Tr) (l : Tr) (hl : ys.length = ws.length) (h4 : ws.length ≤ 4) (hp : ∀ y ∈ ys, y.d.pl = true) :
    ∃ cs : List D, cs.length ≤ ws.length + 1 ∧ den (n + 2) "counted_parts" [.d (.tup [.str "melt", .str w, .tup (prs ws (Tr.ds ys)), l.d])] = .ok (.lst cs) [some (.d (.tup [.str "melt", .str w, .tup (prs ws (Tr.ds ys)), l.d]))] := by
  have zl : (List.zip ws ys).length = ws.length := by rw [List.length_zip, hl]; exact Nat.min_self _
  obtain ⟨P, hP⟩ : ∃ P, P = prs ws (Tr.ds ys) := ⟨_, rfl⟩
  obtain ⟨vs, hvs⟩ : ∃ vs : List D, vs = ((List.zip ws ys).filter fun p => !p.2.bare).map (·.2.d) := ⟨_, rfl⟩
  have vl : vs.length ≤ ws.length := by
    rw [hvs, List.length_map, ← zl]
    exact List.length_filter_le ..
  have lc : mLc [1, 2] (iSeq (eM (mBin ixD (eN 0) (eC (.int 2))))) (gT 2 (gsCons (gN 1) (gsCons (gN 2) gsNil))) (tNot' (tM (mCall (den (n + 1) "is_bare") (aCons (eN 2) aNil)))) (eN 2) [some (.d (.tup [.str "melt", .str w, .tup P, l.d])), none, none] = .ok (.lst vs) [some (.d (.tup [.str "melt", .str w, .tup P, l.d])), none, none] := by
    have e2 := mLc_tf (own := [1, 2]) (fi := iSeq (eM (mBin ixD (eN 0) (eC (.int 2))))) (g := gT 2 (gsCons (gN 1) (gsCons (gN 2) gsNil))) (t := tNot' (tM (mCall (den (n + 1) "is_bare") (aCons (eN 2) aNil)))) (fe := eN 2) (S := [some (.d (.tup [.str "melt", .str w, .tup P, l.d])), none, none]) (S1 := [some (.d (.tup [.str "melt", .str w, .tup P, l.d])), none, none]) (ts := List.zip ws ys) (fun p => D.tup [.str p.1, p.2.d]) (fun p => p.2.d) (fun p => !p.2.bare) (by
      rw [← prs_zip, ← hP]
      simp -dsimp) (by
      intro p hp2
      have hy := hp p.2 (zip_mem hp2)
      have be := bare_t n p.2 hy
      refine ⟨[some (.d (.tup [.str "melt", .str w, .tup P, l.d])), some (.d (.str p.1)), some (.d p.2.d)], rfl, ?_⟩
      simp -dsimp [be, wipeS]) (by rw [zl]; show _ ≤ 16777216; omega)
    rw [e2, hvs]
    rfl
  rw [← hP]
  refine ⟨vs ++ [l.d], by rw [List.length_append]; exact Nat.succ_le_succ vl, eq_of_wp ?_⟩
  rw [den_counted_parts]
  refine run_wp rfl ?_
  unfold b_counted_parts
  simp -dsimp [List.replicate, lc, show vs.length + 1 ≤ 16777216 by omega]
theorem node_ok (n : Nat) (k : Kd) (xs : List Tr) (ho : (Tr.nd k xs).ok) (hw : (Tr.nd k xs).wk) (ht : (Tr.nd k xs).tk) : den (n + 4) "is_node" [.d (Tr.nd k xs).d] = .ok (.d (.bl true)) [some (.d (Tr.nd k xs).d)] := by
  have hp := (pft_ok _ (tr_pft _ ho hw)).1
  obtain ⟨ha, ho⟩ : k.ar xs.length ∧ Tr.oks xs := ho
  obtain ⟨kw, hw⟩ : k.wk ∧ Tr.wks xs := hw
  obtain ⟨kt, ht⟩ : k.tk xs.length ∧ Tr.tks xs := ht
  have hwd : k.named → den (n + 3) "has_words" [.d (k.mk (Tr.ds xs))] = .ok (.d (.bl true)) [some (.d (k.mk (Tr.ds xs)))] := fun h => hasw_eq n k (Tr.ds xs) (by rw [ds_len]; exact ha) kw (by rw [ds_len]; exact kt) h
  have hd : (Tr.nd k xs).d = k.mk (Tr.ds xs) := rfl
  rw [hd] at hp ⊢
  refine eq_of_wp ?_
  rw [den_is_node]
  refine run_wp rfl ?_
  unfold b_is_node
  cases k with
  | num i =>
    have ft := ft_eq (n + 1) i 0 1000000000 kw.1 kw.2
    have m : (Kd.num i).mk (Tr.ds xs) = .tup [.str "number", .int i] := rfl
    rw [m] at hp ⊢
    have h0 := eq_unit hp
    simp -dsimp [List.replicate, isiK, ↓h0, tabAt, t_SHAPES, inD_t2, ft, c_MOST_NUMBER]
  | tru b =>
    have m : (Kd.tru b).mk (Tr.ds xs) = .tup [.str "truth", .bl b] := rfl
    rw [m] at hp ⊢
    have h0 := eq_unit hp
    simp -dsimp [List.replicate, isiK, ↓h0, tabAt, t_SHAPES, inD_t2]
  | nam w =>
    have hh := hwd trivial
    have m : (Kd.nam w).mk (Tr.ds xs) = .tup [.str "name", .str w] := rfl
    rw [m] at hp ⊢
    rw [m] at hh
    have h0 := eq_unit hp
    simp -dsimp [List.replicate, isiK, ↓h0, tabAt, t_SHAPES, inD_t2, hh]
  | rai w =>
    have hh := hwd trivial
    have m : (Kd.rai w).mk (Tr.ds xs) = .tup [.str "raise", .str w] := rfl
    rw [m] at hp ⊢
    rw [m] at hh
    have h0 := eq_unit hp
    simp -dsimp [List.replicate, isiK, ↓h0, tabAt, t_SHAPES, inD_t2, hh]
  | do_ w =>
    obtain ⟨a, b, rfl⟩ := len2 (show xs.length = 2 from ha)
    have sg : inD (.str w) c_SIGNS = some (.d (.bl true)) := by rw [SIGNS_eq, inD_strT, decide_eq_true (show w ∈ SG from kt)]
    have m : (Kd.do_ w).mk (Tr.ds [a, b]) = .tup [.str "do", .str w, a.d, b.d] := rfl
    rw [m] at hp ⊢
    have h0 := eq_unit hp
    simp -dsimp [List.replicate, isiK, ↓h0, tabAt, t_SHAPES, inD_t2, sg]
  | let_ w =>
    obtain ⟨a, b, rfl⟩ := len2 (show xs.length = 2 from ha)
    have hh := hwd trivial
    have m : (Kd.let_ w).mk (Tr.ds [a, b]) = .tup [.str "let", .str w, a.d, b.d] := rfl
    rw [m] at hp ⊢
    rw [m] at hh
    have h0 := eq_unit hp
    simp -dsimp [List.replicate, isiK, ↓h0, tabAt, t_SHAPES, inD_t2, hh]
  | pick i =>
    obtain ⟨a, rfl⟩ := len1 (show xs.length = 1 from ha)
    have ft := ft_eq (n + 1) i 1 4 kt.1 kt.2
    have m : (Kd.pick i).mk (Tr.ds [a]) = .tup [.str "pick", .int i, a.d] := rfl
    rw [m] at hp ⊢
    have h0 := eq_unit hp
    simp -dsimp [List.replicate, isiK, ↓h0, tabAt, t_SHAPES, inD_t2, ft, c_MOST_ARGS]
  | mark i =>
    obtain ⟨a, rfl⟩ := len1 (show xs.length = 1 from ha)
    have ft := ft_eq (n + 1) i 0 1000000000 kw.1 kw.2
    have m : (Kd.mark i).mk (Tr.ds [a]) = .tup [.str "mark", .int i, a.d] := rfl
    rw [m] at hp ⊢
    have h0 := eq_unit hp
    simp -dsimp [List.replicate, isiK, ↓h0, tabAt, t_SHAPES, inD_t2, ft, c_MOST_NUMBER]
  | many =>
    obtain ⟨a, rfl⟩ := len1 (show xs.length = 1 from ha)
    have m : (Kd.many).mk (Tr.ds [a]) = .tup [.str "many", a.d] := rfl
    rw [m] at hp ⊢
    have h0 := eq_unit hp
    simp -dsimp [List.replicate, isiK, ↓h0, tabAt, t_SHAPES, inD_t2]
  | iff =>
    obtain ⟨a, b, c, rfl⟩ := len3 (show xs.length = 3 from ha)
    have m : (Kd.iff).mk (Tr.ds [a, b, c]) = .tup [.str "if", a.d, b.d, c.d] := rfl
    rw [m] at hp ⊢
    have h0 := eq_unit hp
    simp -dsimp [List.replicate, isiK, ↓h0, tabAt, t_SHAPES, inD_t2]
  | parts =>
    have re := row_eq (n + 2) (Tr.ds xs) (by rw [ds_len]; exact kt)
    have m : (Kd.parts).mk (Tr.ds xs) = .tup [.str "parts", .tup (Tr.ds xs)] := rfl
    rw [m] at hp ⊢
    have h0 := eq_unit hp
    simp -dsimp [List.replicate, isiK, ↓h0, tabAt, t_SHAPES, inD_t2, re]
  | loop w w2 =>
    obtain ⟨a, b, c, rfl⟩ := len3 (show xs.length = 3 from ha)
    have hh := hwd trivial
    have m : (Kd.loop w w2).mk (Tr.ds [a, b, c]) = .tup [.str "loop", .str w, a.d, .str w2, b.d, c.d] := rfl
    rw [m] at hp ⊢
    rw [m] at hh
    have h0 := eq_unit hp
    simp -dsimp [List.replicate, isiK, ↓h0, tabAt, t_SHAPES, inD_t2, hh]
  | try_ w =>
    obtain ⟨a, b, rfl⟩ := len2 (show xs.length = 2 from ha)
    have hh := hwd trivial
    have m : (Kd.try_ w).mk (Tr.ds [a, b]) = .tup [.str "try", a.d, .str w, b.d] := rfl
    rw [m] at hp ⊢
    rw [m] at hh
    have h0 := eq_unit hp
    simp -dsimp [List.replicate, isiK, ↓h0, tabAt, t_SHAPES, inD_t2, hh]
  | call w =>
    have hh := hwd trivial
    have re := row_eq (n + 2) (Tr.ds xs) (by rw [ds_len]; exact kt.2)
    have m : (Kd.call w).mk (Tr.ds xs) = .tup [.str "call", .str w, .tup (Tr.ds xs)] := rfl
    rw [m] at hp ⊢
    rw [m] at hh
    have h0 := eq_unit hp
    simp -dsimp [List.replicate, isiK, ↓h0, tabAt, t_SHAPES, inD_t2, hh, re]
  | melt w ws =>
    obtain ⟨h1, h2⟩ : xs.length = ws.length + 1 ∧ ws.length ≤ 1000 := ha
    obtain ⟨ys, l, rfl, hy⟩ := snoc_of h1
    have hh := hwd trivial
    have m : (Kd.melt w ws).mk (Tr.ds (ys ++ [l])) = .tup [.str "melt", .str w, .tup (prs ws (Tr.ds ys)), l.d] := by
      rw [ds_app]
      exact mk_melt (by rw [ds_len]; exact hy)
    have ap := pairs_eq n ws ys hy kt.2.2.2 kw.2 kt.2.1 kt.2.2.1 (fun y hy => (pft_ok _ (tr_pft y (oks_mem ho y (List.mem_append_left _ hy)) (wks_mem hw y (List.mem_append_left _ hy)))).1)
    rw [m] at hp hh ⊢
    have h0 := eq_unit hp
    simp -dsimp [List.replicate, isiK, ↓h0, tabAt, t_SHAPES, inD_t2, hh, ap]
def wsz : List (Tr × Nat) → Nat
  | [] => 0
  | p :: ps => p.1.sz + wsz ps
theorem wsz_app (a b : List (Tr × Nat)) : wsz (a ++ b) = wsz a + wsz b := by
  induction a with
  | nil => show wsz b = 0 + _; omega
  | cons x a ih => show x.1.sz + wsz (a ++ b) = x.1.sz + wsz a + wsz b; omega
theorem wsz_map (xs : List Tr) (d : Nat) : wsz (xs.map fun x => (x, d)) = Tr.szs xs := by
  induction xs with
  | nil => rfl
  | cons x xs ih => show x.sz + wsz _ = x.sz + Tr.szs xs; omega
theorem wsz_len (a : List (Tr × Nat)) : a.length ≤ wsz a := by
  induction a with
  | nil => exact Nat.le_refl _
  | cons x a ih =>
    have := (sd_pos x.1).1
    show a.length + 1 ≤ x.1.sz + wsz a
    omega
def pd (p : Tr × Nat) : D := .tup [p.1.d, .int p.2]
theorem tree_ok (n : Nat) (t : Tr) (ho : t.ok) (hw : t.wk) (ht : t.tk) (hd : t.dep ≤ 64) (hs : t.sz ≤ 2000) : den (n + 5) "is_tree" [.d t.d] = .ok (.d (.bl true)) [some (.d t.d)] := by
  refine eq_of_wp ?_
  rw [den_is_tree]
  refine run_wp rfl ?_
  unfold b_is_tree
  simp -dsimp [List.replicate]
  obtain ⟨I, hI⟩ : ∃ I : Nat → SS → Prop, I = fun (m : Nat) (S : SS) => ∃ (W : List (Tr × Nat)) (mn : Int) (s3 s4 s5 : Option Ev.M), (∀ p ∈ W, p.1.ok ∧ p.1.wk ∧ p.1.tk ∧ p.1.dep + p.2 ≤ 65) ∧ wsz W = m ∧ mn + m ≤ 2000 ∧ m ≤ 2000 ∧
      S = [some (.d t.d), some (.lst (W.map pd)), some (.d (.int mn)), s3, s4, s5] := ⟨_, rfl⟩
  refine wp_while I ?_ t.sz _ (by
    rw [hI]
    refine ⟨[(t, 1)], 0, _, _, _, fun p hp => ?_, by show t.sz + 0 = t.sz; omega, by omega, hs, rfl⟩
    rw [List.mem_singleton.mp hp]
    exact ⟨ho, hw, ht, by show t.dep + 1 ≤ 65; omega⟩)
  intro m S hS
  rw [hI] at hS
  obtain ⟨W, mn, s3, s4, s5, hW, hm, hmn, hm2, rfl⟩ := hS
  rcases List.eq_nil_or_concat W with e | ⟨W', p, e⟩
  · subst e
    simp -dsimp [-neD_ap, ne_nil]
  · rw [List.concat_eq_append] at e
    subst e
    obtain ⟨⟨k, xs⟩, d⟩ := p
    obtain ⟨xo, xw, xt, xd⟩ := hW _ (List.mem_append_right _ (List.mem_singleton.mpr rfl))
    have xd : Tr.deps xs + 1 + d ≤ 65 := xd
    have hsz : wsz W' + (Tr.szs xs + 1) = m := by
      rw [wsz_app] at hm
      have : wsz [((Tr.nd k xs), d)] = Tr.szs xs + 1 := by show (Tr.szs xs + 1) + 0 = _; omega
      omega
    have wl := wsz_len W'
    have xl := len_szs xs
    have no := node_ok n k xs xo xw xt
    have po : den (n + 4) "parts_of" [.d (Tr.nd k xs).d] = .ok (.lst (Tr.ds xs)) [some (.d (Tr.nd k xs).d)] := parts_of_eq (n + 3) k (Tr.ds xs) (by rw [ds_len]; exact xo.1)
    have e0 : ixD (Tr.nd k xs).d (.int 0) = some (.d (.str k.nm)) := mk_0 k (Tr.ds xs)
    have ct : (∃ w ws, k = .melt w ws) → ∃ cs : List D, cs.length ≤ xs.length ∧ den (n + 4) "counted_parts" [.d (Tr.nd k xs).d] = .ok (.lst cs) [some (.d (Tr.nd k xs).d)] := by
      rintro ⟨w, ws, rfl⟩
      obtain ⟨h1, h2⟩ : xs.length = ws.length + 1 ∧ ws.length ≤ 1000 := xo.1
      obtain ⟨ys, l, rfl, hy⟩ := snoc_of h1
      obtain ⟨cs, c1, c2⟩ := counted_eq (n + 2) w ws ys l hy xt.1.2.2.2 (fun y hy => (pft_ok _ (tr_pft y (oks_mem xo.2 y (List.mem_append_left _ hy)) (wks_mem xw.2 y (List.mem_append_left _ hy)))).1)
      have m : (Tr.nd (.melt w ws) (ys ++ [l])).d = .tup [.str "melt", .str w, .tup (prs ws (Tr.ds ys)), l.d] := by
        show (Kd.melt w ws).mk (Tr.ds (ys ++ [l])) = _
        rw [ds_app]
        exact mk_melt (by rw [ds_len]; exact hy)
      rw [m]
      exact ⟨cs, by rw [h1]; exact c1, c2⟩
    obtain ⟨o, ho⟩ : ∃ o, o = (Tr.nd k xs).d := ⟨_, rfl⟩
    have pe : pd (Tr.nd k xs, d) = .tup [o, .int d] := by rw [ho]; rfl
    rw [← ho] at no po e0 ct
    have hdp : ¬ (64 : Int) < (d : Int) := by omega
    rw [List.map_append, List.map_cons, List.map_nil, pe]
    simp -dsimp [-neD_ap, ne_nil, c_MOST_DEPTH, hdp, no, po]
    obtain ⟨J, hJ⟩ : ∃ J : List D → SS → Prop, J = fun ds S => ∃ (dn rem : List Tr) (s3 : Option Ev.M), xs = dn ++ rem ∧ ds = Tr.ds rem ∧
        S = [some (.d t.d), some (.lst ((W' ++ dn.map fun x => (x, d + 1)).map pd)), some (.d (.int (mn + 1))), s3, some (.d o), some (.d (.int (d : Int)))] := ⟨_, rfl⟩
    refine wp_forL J ?_ ?_ (Tr.ds xs) _ (by rw [hJ]; exact ⟨[], xs, _, rfl, rfl, by rw [List.map_nil, List.append_nil]⟩)
    · intro S hS
      rw [hJ] at hS
      obtain ⟨dn, rem, s3, e1, e2, rfl⟩ := hS
      have e3 : rem = [] := by
        cases rem with
        | nil => rfl
        | cons a b => cases e2
      subst e3
      rw [List.append_nil] at e1
      subst e1
      have nW : ∀ p ∈ W' ++ xs.map (fun x => (x, d + 1)), p.1.ok ∧ p.1.wk ∧ p.1.tk ∧ p.1.dep + p.2 ≤ 65 := by
        intro p hp
        rcases List.mem_append.mp hp with hp | hp
        · exact hW p (List.mem_append_left _ hp)
        · obtain ⟨x, hx, rfl⟩ := List.mem_map.mp hp
          have hx2 := deps_mem (Nat.le_refl _) x hx
          refine ⟨oks_mem xo.2 x hx, wks_mem xw.2 x hx, tks_mem xt.2 x hx, ?_⟩
          show x.dep + (d + 1) ≤ 65
          omega
      have nS : wsz (W' ++ xs.map fun x => (x, d + 1)) = m - 1 := by rw [wsz_app, wsz_map]; omega
      have dl := ds_len xs
      by_cases hmelt : ∃ w ws, k = .melt w ws
      · have hk := hmelt
        obtain ⟨w, ws, rfl⟩ := hk
        obtain ⟨cs, c1, c2⟩ := ct hmelt
        obtain ⟨mn', hmn'⟩ : ∃ x : Int, x = mn + 1 - (xs.length : Int) + (cs.length : Int) := ⟨_, rfl⟩
        have e1 : (Kd.melt w ws).nm = "melt" := rfl
        rw [e1] at e0
        have big : ¬ (2000 : Int) < mn' := by omega
        simp -dsimp [-List.map_append, -List.map_map, e0, po, c2, dl, show xs.length ≤ 16777216 by omega, show cs.length ≤ 16777216 by omega, ← hmn', c_MOST_NODES, big]
        refine ⟨m - 1, by omega, ?_⟩
        rw [hI]
        exact ⟨_, mn', _, _, _, nW, nS, by omega, by omega, rfl⟩
      · have nn := nm_melt (k := k) fun w ws e => hmelt ⟨w, ws, e⟩
        have big : ¬ (2000 : Int) < mn + 1 := by omega
        simp -dsimp [-List.map_append, -List.map_map, e0, nn, c_MOST_NODES, big]
        refine ⟨m - 1, by omega, ?_⟩
        rw [hI]
        exact ⟨_, mn + 1, _, _, _, nW, nS, by omega, by omega, rfl⟩
    · intro y ys S hS
      rw [hJ] at hS
      obtain ⟨dn, rem, s3, e1, e2, rfl⟩ := hS
      cases rem with
      | nil => cases e2
      | cons x rem =>
        obtain ⟨rfl, rfl⟩ := List.cons.inj (show y :: ys = x.d :: Tr.ds rem from e2)
        have xsl : xs.length = dn.length + (rem.length + 1) := by rw [e1, List.length_append]; rfl
        refine ⟨[some (.d t.d), some (.lst ((W' ++ dn.map fun x => (x, d + 1)).map pd)), some (.d (.int (mn + 1))), some (.d x.d), some (.d o), some (.d (.int (d : Int)))], rfl, ?_⟩
        simp -dsimp [-List.map_append, -List.map_map, show W'.length + dn.length < 16777216 by omega]
        rw [hJ]
        refine ⟨dn ++ [x], rem, some (.d x.d), by rw [e1]; simp, rfl, ?_⟩
        have e4 : (W' ++ (dn ++ [x]).map fun x => (x, d + 1)).map pd = (W' ++ dn.map fun x => (x, d + 1)).map pd ++ [.tup [x.d, .int ((d : Int) + 1)]] := by
          simp [pd]
        rw [e4]
/-- a tree and what is made of it -/
structure MR (a b : Tr) : Prop where
  ok : a.ok
  wk : a.wk
  tk : a.tk
  th : a.th = b.th
  dep : a.dep ≤ b.dep + 3
  sz : a.sz ≤ 7 * b.sz
def MRs : List Tr → List Tr → Prop
  | [], [] => True
  | a :: as, b :: bs => MR a b ∧ MRs as bs
  | _, _ => False
theorem MRs.snoc : ∀ {as bs : List Tr} {a b : Tr}, MRs as bs → MR a b → MRs (as ++ [a]) (bs ++ [b])
  | [], [], _, _, _, h => ⟨h, trivial⟩
  | _ :: _, _ :: _, _, _, ⟨h1, h2⟩, h => ⟨h1, MRs.snoc h2 h⟩
theorem MRs.len : ∀ {as bs : List Tr}, MRs as bs → as.length = bs.length
  | [], [], _ => rfl
  | _ :: _, _ :: _, ⟨_, h2⟩ => congrArg (· + 1) (MRs.len h2)
theorem MRs.oks : ∀ {as bs : List Tr}, MRs as bs → Tr.oks as ∧ Tr.wks as ∧ Tr.tks as
  | [], [], _ => ⟨trivial, trivial, trivial⟩
  | _ :: _, _ :: _, ⟨h1, h2⟩ => ⟨⟨h1.ok, (MRs.oks h2).1⟩, ⟨h1.wk, (MRs.oks h2).2.1⟩, ⟨h1.tk, (MRs.oks h2).2.2⟩⟩
theorem MRs.ths : ∀ {as bs : List Tr}, MRs as bs → Tr.ths as = Tr.ths bs
  | [], [], _ => rfl
  | a :: as, b :: bs, ⟨h1, h2⟩ => by
    show a.th :: Tr.ths as = b.th :: Tr.ths bs
    rw [h1.th, MRs.ths h2]
theorem MRs.szs : ∀ {as bs : List Tr}, MRs as bs → Tr.szs as ≤ 7 * Tr.szs bs ∧ Tr.deps as ≤ Tr.deps bs + 3
  | [], [], _ => ⟨Nat.zero_le _, Nat.zero_le _⟩
  | a :: as, b :: bs, ⟨h1, h2⟩ => by
    have h := MRs.szs h2
    have e1 := h1.sz
    have e2 := h1.dep
    show a.sz + Tr.szs as ≤ 7 * (b.sz + Tr.szs bs) ∧ max a.dep (Tr.deps as) ≤ max b.dep (Tr.deps bs) + 3
    omega
theorem prs_snoc : ∀ {ws : List Str} {ds : List D} (w : Str) (d : D), ds.length = ws.length → prs (ws ++ [w]) (ds ++ [d]) = prs ws ds ++ [.tup [.str w, d]]
  | [], [], _, _, _ => rfl
  | v :: ws, x :: ds, w, d, h => by
    show D.tup [.str v, x] :: prs (ws ++ [w]) (ds ++ [d]) = (D.tup [.str v, x] :: prs ws ds) ++ _
    rw [prs_snoc w d (by simpa using h)]
    rfl
theorem kd_cases (k : Kd) : (∃ w, k = .call w) ∨ (∃ w, k = .do_ w) ∨ (∃ w, k = .let_ w) ∨ k = .parts ∨ ((k.nm == ("call" : Str)) = false ∧ (k.nm == ("parts" : Str)) = false ∧ (("do" : Str) == k.nm) = false ∧ (("let" : Str) == k.nm) = false) := by
  cases k with
  | call w => exact .inl ⟨w, rfl⟩
  | do_ w => exact .inr (.inl ⟨w, rfl⟩)
  | let_ w => exact .inr (.inr (.inl ⟨w, rfl⟩))
  | parts => exact .inr (.inr (.inr (.inl rfl)))
  | _ => exact .inr (.inr (.inr (.inr (by simp [Kd.nm]))))
def MelOk (f : Str → List M → CR) (ws : List Str) (K : Nat) : Prop := ∀ (t : Tr) (g : Bag) (Q : M → List (Option M) → Prop), g.Ok → t.ok → t.wk → t.tk → t.dep ≤ K →
    (∀ (t' : Tr) (g' : Bag) (f : Option M), MR t' t → g'.Ok → Q (.d t'.d) [some g'.enc, f, some (.lst (ws.map .str))]) →
    (f "_law_melted" [g.enc, .d t.d, .lst (ws.map .str)]).wp Q
theorem melt_step (n K : Nat) (ws : List Str) (hl : ws.length = 5) (hw : ∀ w ∈ ws, Wd w) (hwb : ∀ w ∈ ws, wordB w = true) (hnd : ws.Nodup) (hA : AnyOk (den (n + 1)) ws 3) (hM : MelOk (den (n + 1)) ws K) : MelOk (den (n + 2)) ws (K + 1) := by
  intro t g Q hg to tw tt td h
  obtain ⟨k, xs⟩ := t
  obtain ⟨ka, xo⟩ : k.ar xs.length ∧ Tr.oks xs := to
  obtain ⟨kw, xw⟩ : k.wk ∧ Tr.wks xs := tw
  obtain ⟨kt, xt⟩ : k.tk xs.length ∧ Tr.tks xs := tt
  have xd : Tr.deps xs ≤ K := Nat.le_of_succ_le_succ (show Tr.deps xs + 1 ≤ K + 1 from td)
  rw [den__law_melted]
  refine run_wp rfl ?_
  unfold b__law_melted
  -- a walk over trees
  have walk : ∀ (o : D) (fi : FI) (s3 s4 s5 : Option Ev.M) (g : Bag), xs.length ≤ 4 → g.Ok → (∀ g : Bag, fi [some g.enc, some (.d o), some (.lst (ws.map .str)), s3, s4, s5, none] = .ok (Tr.ds xs) [some g.enc, some (.d o), some (.lst (ws.map .str)), s3, s4, s5, none]) →
      ∀ {Q' : Ev.M → SS → Prop}, (∀ (xs' : List Tr) (g : Bag), MRs xs' xs → g.Ok → Q' (.lst (Tr.ds xs')) [some g.enc, some (.d o), some (.lst (ws.map .str)), s3, s4, s5, none]) →
      (mLc [6] fi (gN 6) tTrue (eM (mCall (den (n + 1) "_law_melted") (aCons (eN 0) (aCons (eN 6) (aCons (eN 2) aNil))))) [some g.enc, some (.d o), some (.lst (ws.map .str)), s3, s4, s5, none]).wp Q' := by
    intro o fi s3 s4 s5 g0 h4 hg hfi Q' hQ
    obtain ⟨I, hI⟩ : ∃ I : List D → List D → SS → Prop, I = fun ds acc S => ∃ (g : Bag) (dn rem xs' : List Tr) (s6 : Option Ev.M), g.Ok ∧ xs = dn ++ rem ∧ ds = Tr.ds rem ∧ acc = Tr.ds xs' ∧ MRs xs' dn ∧
        S = [some g.enc, some (.d o), some (.lst (ws.map .str)), s3, s4, s5, s6] := ⟨_, rfl⟩
    refine wp_lc (ds := Tr.ds xs) (S1 := [some g0.enc, some (.d o), some (.lst (ws.map .str)), s3, s4, s5, none]) I (hfi g0) (by rw [hI]; exact ⟨g0, [], xs, [], _, hg, rfl, rfl, rfl, trivial, rfl⟩) ?_ ?_
    · intro d ds acc S hS
      rw [hI] at hS
      obtain ⟨g, dn, rem, xs', s6, hg, e1, e2, rfl, hr, rfl⟩ := hS
      cases rem with
      | nil => cases e2
      | cons x rem =>
        obtain ⟨rfl, rfl⟩ := List.cons.inj (show d :: ds = x.d :: Tr.ds rem from e2)
        have hx : x ∈ xs := by rw [e1]; simp
        refine ⟨[some g.enc, some (.d o), some (.lst (ws.map .str)), s3, s4, s5, some (.d x.d)], rfl, ?_⟩
        simp -dsimp [tTrue]
        refine hM x g _ hg (oks_mem xo x hx) (wks_mem xw x hx) (tks_mem xt x hx) (deps_mem xd x hx) fun x' g f hx' hg => ?_
        have hlen := hr.len
        have xl := len_szs xs
        have : (Tr.ds xs').length < 16777216 := by
          have : xs.length = dn.length + (rem.length + 1) := by rw [e1, List.length_append]; rfl
          rw [ds_len, hlen]
          omega
        simp -dsimp [this]
        refine ⟨_, _, ⟨rfl, rfl⟩, ?_⟩
        rw [hI]
        exact ⟨g, dn ++ [x], rem, xs' ++ [x'], _, hg, by rw [e1]; simp, rfl, by rw [ds_app]; rfl, hr.snoc hx', rfl⟩
    · intro acc S hS
      rw [hI] at hS
      obtain ⟨g, dn, rem, xs', s6, hg, e1, e2, rfl, hr, rfl⟩ := hS
      cases rem with
      | cons x rem => cases e2
      | nil =>
        rw [List.append_nil] at e1
        subst e1
        exact hQ xs' g hr hg
  have fin : ∀ (k' : Kd) (xs' : List Tr) (g : Bag), MRs xs' xs → k'.ar xs'.length → k'.wk → k'.tk xs'.length → (Tr.nd k' xs').th = (Tr.nd k xs).th → g.Ok → Q (.d (Tr.nd k' xs').d) [some g.enc, some (.d (Tr.nd k xs).d), some (.lst (ws.map .str))] := by
    intro k' xs' g hr h1 h2 h3 h4 hg
    obtain ⟨o1, o2, o3⟩ := hr.oks
    obtain ⟨z1, z2⟩ := hr.szs
    refine h _ g _ ⟨⟨h1, o1⟩, ⟨h2, o2⟩, ⟨h3, o3⟩, h4, ?_, ?_⟩ hg
    · show Tr.deps xs' + 1 ≤ Tr.deps xs + 1 + 3
      omega
    · show Tr.szs xs' + 1 ≤ 7 * (Tr.szs xs + 1)
      omega
  rcases kd_cases k with ⟨w, rfl⟩ | ⟨w, rfl⟩ | ⟨w, rfl⟩ | rfl | ⟨n1, n2, n3, n4⟩
  · have m : (Tr.nd (.call w) xs).d = .tup [.str "call", .str w, .tup (Tr.ds xs)] := rfl
    have x4 : xs.length ≤ 4 := kt.2
    rw [m] at fin ⊢
    simp -dsimp [List.replicate, den__law_take]
    refine take_wp _ g _ hg (by decide) (by decide) fun u g u0 u1 hg => ?_
    by_cases cu : u = 0
    · subst cu
      simp -dsimp
      have wln : (ws.map D.str).length = 5 := by rw [List.length_map]; exact hl
      obtain ⟨g0, hg0⟩ : ∃ g0, g0 = g := ⟨_, rfl⟩
      rw [← hg0]
      rw [← hg0] at hg
      obtain ⟨o, ho⟩ : ∃ o : D, o = .tup [.str "call", .str w, .tup (Tr.ds xs)] := ⟨_, rfl⟩
      obtain ⟨I, hI⟩ : ∃ I : List D → List D → SS → Prop, I = fun ds acc S => ∃ (g : Bag) (dn rem xs' : List Tr) (s5 : Option Ev.M), g.Ok ∧ xs = dn ++ rem ∧ ds = rangeD dn.length rem.length ∧ acc = prs (ws.take dn.length) (Tr.ds xs') ∧ MRs xs' dn ∧
          S = [some g.enc, some (.d o), some (.lst (ws.map .str)), none, none, s5, none] := ⟨_, rfl⟩
      rw [← ho]
      refine wp_lc (ds := rangeD 0 xs.length) (S1 := [some g0.enc, some (.d o), some (.lst (ws.map .str)), none, none, none, none]) I (by
        rw [ho]
        simp -dsimp [ds_len, show -4611686018427387904 ≤ (xs.length : Int) ∧ (xs.length : Int) < 4611686018427387904 by omega]) (by rw [hI]; exact ⟨g0, [], xs, [], _, hg, rfl, rfl, rfl, trivial, rfl⟩) ?_ ?_
      · intro d ds acc S hS
        rw [hI] at hS
        obtain ⟨g, dn, rem, xs', s5, hg, e1, e2, rfl, hr, rfl⟩ := hS
        cases rem with
        | nil => cases e2
        | cons x rem =>
          rw [List.length_cons, rangeD_succ] at e2
          obtain ⟨rfl, rfl⟩ := List.cons.inj e2
          have hx : x ∈ xs := by rw [e1]; simp
          have dl : xs.length = dn.length + (rem.length + 1) := by rw [e1, List.length_append]; rfl
          have e3 : atI (Tr.ds xs) (dn.length : Int) = some x.d := by
            refine atI_ok (by omega) ?_
            rw [Int.toNat_natCast, e1, ds_app, List.getElem?_append_right (by rw [ds_len]; exact Nat.le_refl _), ds_len, Nat.sub_self]
            rfl
          have wi : dn.length < ws.length := by omega
          obtain ⟨v, hv⟩ : ∃ v, v = ws[dn.length] := ⟨_, rfl⟩
          have e4 : atI (ws.map D.str) (dn.length : Int) = some (.str v) := by
            refine atI_ok (by omega) ?_
            rw [Int.toNat_natCast, List.getElem?_map, List.getElem?_eq_getElem wi, hv]
            rfl
          refine ⟨[some g.enc, some (.d o), some (.lst (ws.map .str)), none, none, some (.d (.int (dn.length : Int))), none], rfl, ?_⟩
          rw [ho]
          simp -dsimp [tTrue, e3, e4]
          refine hM x g _ hg (oks_mem xo x hx) (wks_mem xw x hx) (tks_mem xt x hx) (deps_mem xd x hx) fun x' g f hx' hg => ?_
          have hlen := hr.len
          have tl : (ws.take dn.length).length = dn.length := by rw [List.length_take]; omega
          have pl : (prs (ws.take dn.length) (Tr.ds xs')).length = dn.length := by rw [prs_len (by rw [ds_len, tl]; exact hlen), tl]
          simp -dsimp [show (prs (ws.take dn.length) (Tr.ds xs')).length < 16777216 by rw [pl]; omega]
          refine ⟨_, _, ⟨rfl, rfl⟩, ?_⟩
          rw [hI]
          refine ⟨g, dn ++ [x], rem, xs' ++ [x'], _, hg, by rw [e1]; simp, by rw [List.length_append]; rfl, ?_, hr.snoc hx', by rw [ho]⟩
          rw [List.length_append, List.length_singleton, List.take_add_one, List.getElem?_eq_getElem wi, ← hv, ds_app]
          exact (prs_snoc v x'.d (by rw [ds_len, tl]; exact hlen)).symm
      intro acc S hS
      rw [hI] at hS
      obtain ⟨g, dn, rem, xs', s5, hg, e1, e2, rfl, hr, rfl⟩ := hS
      cases rem with
      | cons x rem => rw [List.length_cons, rangeD_succ] at e2; cases e2
      | nil =>
        rw [List.append_nil] at e1
        subst e1
        rw [show restS [some g0.enc, some (.d o), some (.lst (ws.map .str)), none, none, none, none] [some g.enc, some (.d o), some (.lst (ws.map .str)), none, none, s5, none] [5] = [some g.enc, some (.d o), some (.lst (ws.map .str)), none, none, none, none] from rfl, ho]
        simp -dsimp
        refine hA g 6 _ hg (by decide) (by decide) fun b g bo bw bt bd bs hg => ?_
        simp -dsimp
        obtain ⟨o1, o2, o3⟩ := hr.oks
        obtain ⟨z1, z2⟩ := hr.szs
        have hlen := hr.len
        obtain ⟨vs, hvs⟩ : ∃ vs, vs = ws.take xs.length := ⟨_, rfl⟩
        have vl : vs.length = xs.length := by rw [hvs, List.length_take]; omega
        have vm : ∀ v ∈ vs, v ∈ ws := fun v hv => by rw [hvs] at hv; exact List.mem_of_mem_take hv
        have e5 : (Tr.nd (.melt w vs) (xs' ++ [b])).d = .tup [.str "melt", .str w, .tup (prs vs (Tr.ds xs')), b.d] := by
          show (Kd.melt w vs).mk (Tr.ds (xs' ++ [b])) = _
          rw [ds_app]
          exact mk_melt (by rw [ds_len, vl]; exact hlen)
        rw [← hvs, ← e5]
        refine h _ g _ ⟨⟨⟨by rw [List.length_append, vl, hlen]; rfl, by omega⟩, oks_of fun x hx => ?_⟩, ⟨⟨kw, fun v hv => hw v (vm v hv)⟩, wks_of fun x hx => ?_⟩,
          ⟨⟨kt.1, fun v hv => hwb v (vm v hv), by rw [hvs]; exact hnd.sublist (List.take_sublist _ _), by omega⟩, tks_of fun x hx => ?_⟩, ?_, ?_, ?_⟩ hg
        · rcases List.mem_append.mp hx with hx | hx
          · exact oks_mem o1 x hx
          · rw [List.mem_singleton.mp hx]; exact bo
        · rcases List.mem_append.mp hx with hx | hx
          · exact wks_mem o2 x hx
          · rw [List.mem_singleton.mp hx]; exact bw
        · rcases List.mem_append.mp hx with hx | hx
          · exact tks_mem o3 x hx
          · rw [List.mem_singleton.mp hx]; exact bt
        · show Tr.nd (.call w) (Tr.ths (xs' ++ [b])).dropLast = Tr.nd (.call w) (Tr.ths xs)
          have : (Tr.ths (xs' ++ [b])).dropLast = Tr.ths xs := by
            rw [ths_map, List.map_append, ← ths_map, hr.ths]
            exact List.dropLast_concat
          rw [this]
        · have : Tr.deps (xs' ++ [b]) ≤ Tr.deps xs + 3 := tdeps_of fun x hx => by
            rcases List.mem_append.mp hx with hx | hx
            · have := deps_mem z2 x hx
              exact this
            · rw [List.mem_singleton.mp hx]; omega
          show Tr.deps (xs' ++ [b]) + 1 ≤ Tr.deps xs + 1 + 3
          omega
        · have e6 : Tr.szs (xs' ++ [b]) = Tr.szs xs' + Tr.szs [b] := szs_app _ _
          have e7 : Tr.szs [b] = b.sz := by show b.sz + 0 = b.sz; omega
          show Tr.szs (xs' ++ [b]) + 1 ≤ 7 * (Tr.szs xs + 1)
          omega
    · simp -dsimp [cu]
      refine walk _ _ none none none g x4 hg (fun g => by simp -dsimp) fun xs' g hr hg => ?_
      simp -dsimp
      have e : Tr.nd (.call w) xs' = Tr.nd (.call w) xs' := rfl
      exact fin (.call w) xs' g hr (by rw [hr.len]; exact ka) kw (by rw [hr.len]; exact kt) (by show Tr.nd (.call w) (Tr.ths xs') = Tr.nd (.call w) (Tr.ths xs); rw [hr.ths]) hg
  · obtain ⟨a, b, rfl⟩ := len2 (show xs.length = 2 from ka)
    have m : (Tr.nd (.do_ w) [a, b]).d = .tup [.str "do", .str w, a.d, b.d] := rfl
    obtain ⟨ao, bo, _⟩ : a.ok ∧ b.ok ∧ True := xo
    obtain ⟨aw, bw, _⟩ : a.wk ∧ b.wk ∧ True := xw
    obtain ⟨at_, bt, _⟩ : a.tk ∧ b.tk ∧ True := xt
    have ad : a.dep ≤ K := deps_mem xd a (by simp)
    have bd : b.dep ≤ K := deps_mem xd b (by simp)
    rw [m] at fin ⊢
    simp -dsimp [List.replicate, inD_t2]
    refine hM a g _ hg ao aw at_ ad fun a' g f ha hg => ?_
    simp -dsimp [cut_n2]
    refine hM b g _ hg bo bw bt bd fun b' g f2 hb hg => ?_
    simp -dsimp
    exact fin (.do_ w) [a', b'] g ⟨ha, hb, trivial⟩ rfl kw kt (by show Tr.nd (.do_ w) [a'.th, b'.th] = Tr.nd (.do_ w) [a.th, b.th]; rw [ha.th, hb.th]) hg
  · obtain ⟨a, b, rfl⟩ := len2 (show xs.length = 2 from ka)
    have m : (Tr.nd (.let_ w) [a, b]).d = .tup [.str "let", .str w, a.d, b.d] := rfl
    obtain ⟨ao, bo, _⟩ : a.ok ∧ b.ok ∧ True := xo
    obtain ⟨aw, bw, _⟩ : a.wk ∧ b.wk ∧ True := xw
    obtain ⟨at_, bt, _⟩ : a.tk ∧ b.tk ∧ True := xt
    have ad : a.dep ≤ K := deps_mem xd a (by simp)
    have bd : b.dep ≤ K := deps_mem xd b (by simp)
    rw [m] at fin ⊢
    simp -dsimp [List.replicate, inD_t2]
    refine hM a g _ hg ao aw at_ ad fun a' g f ha hg => ?_
    simp -dsimp [cut_n2]
    refine hM b g _ hg bo bw bt bd fun b' g f2 hb hg => ?_
    simp -dsimp
    exact fin (.let_ w) [a', b'] g ⟨ha, hb, trivial⟩ rfl kw kt (by show Tr.nd (.let_ w) [a'.th, b'.th] = Tr.nd (.let_ w) [a.th, b.th]; rw [ha.th, hb.th]) hg
  · have m : (Tr.nd .parts xs).d = .tup [.str "parts", .tup (Tr.ds xs)] := rfl
    have x4 : xs.length ≤ 4 := kt
    rw [m] at fin ⊢
    simp -dsimp [List.replicate, inD_t2]
    refine walk _ _ none none none g x4 hg (fun g => by simp -dsimp) fun xs' g hr hg => ?_
    simp -dsimp
    exact fin .parts xs' g hr (by rw [hr.len]; exact ka) kw (by rw [hr.len]; exact kt) (by show Tr.nd .parts (Tr.ths xs') = Tr.nd .parts (Tr.ths xs); rw [hr.ths]) hg
  · have e0 : ixD (Tr.nd k xs).d (.int 0) = some (.d (.str k.nm)) := mk_0 k (Tr.ds xs)
    obtain ⟨o, ho⟩ : ∃ o, o = (Tr.nd k xs).d := ⟨_, rfl⟩
    have h' := h (.nd k xs) g none ⟨⟨ka, xo⟩, ⟨kw, xw⟩, ⟨kt, xt⟩, rfl, by omega, by omega⟩ hg
    rw [← ho] at e0 h' ⊢
    simp -dsimp [List.replicate, e0, n1, n2, n3, n4, inD_t2]
    exact h'
theorem melted_wp (ws : List Str) (hl : ws.length = 5) (hw : ∀ w ∈ ws, Wd w) (hwb : ∀ w ∈ ws, wordB w = true) (hnd : ws.Nodup) : ∀ (K n : Nat), MelOk (den (n + K + 6)) ws (K + 1) := by
  intro K
  induction K with
  | zero =>
    intro n
    refine melt_step (n + 4) 0 ws hl hw hwb hnd (any_wp ws hl hw hwb hnd 2 n 3 (by decide) (by decide)) fun t g Q _ _ _ _ hd _ => ?_
    have := (sd_pos t).2
    omega
  | succ K ih =>
    intro n
    exact melt_step (n + K + 5) (K + 1) ws hl hw hwb hnd (any_wp ws hl hw hwb hnd 2 (n + K + 1) 3 (by decide) (by decide)) (ih n)
theorem len4 {α : Type} {xs : List α} (h : xs.length = 4) : ∃ a b c d, xs = [a, b, c, d] := by
  match xs, h with
  | [a, b, c, d], _ => exact ⟨a, b, c, d, rfl⟩
theorem len5 {α : Type} {xs : List α} (h : xs.length = 5) : ∃ a b c d e, xs = [a, b, c, d, e] := by
  match xs, h with
  | [a, b, c, d, e], _ => exact ⟨a, b, c, d, e, rfl⟩
theorem ths_id : ∀ {ys : List Tr}, (∀ y ∈ ys, y.th = y) → Tr.ths ys = ys
  | [], _ => rfl
  | y :: ys, h => by
    show y.th :: Tr.ths ys = y :: ys
    rw [h y (List.mem_cons_self ..), ths_id fun z hz => h z (List.mem_cons_of_mem _ hz)]
theorem th_th : ∀ (k : Nat) (t : Tr), t.dep ≤ k → t.th.th = t.th
  | 0, .nd _ xs, h => absurd (show Tr.deps xs + 1 ≤ 0 from h) (by omega)
  | c + 1, .nd k xs, h => by
    have hd : Tr.deps xs ≤ c := Nat.le_of_succ_le_succ (show Tr.deps xs + 1 ≤ c + 1 from h)
    have ih : ∀ y ∈ Tr.ths xs, y.th = y := fun y hy => by
      rw [ths_map] at hy
      obtain ⟨x, hx, rfl⟩ := List.mem_map.mp hy
      exact th_th c x (deps_mem hd x hx)
    show (k.thw (Tr.ths xs)).th = k.thw (Tr.ths xs)
    by_cases hm : ∃ w ws, k = .melt w ws
    · obtain ⟨w, ws, rfl⟩ := hm
      show Tr.nd (.call w) (Tr.ths (Tr.ths xs).dropLast) = Tr.nd (.call w) (Tr.ths xs).dropLast
      rw [ths_id fun y hy => ih y (List.dropLast_subset _ hy)]
    · rw [thw_eq fun w ws e => hm ⟨w, ws, e⟩]
      show k.thw (Tr.ths (Tr.ths xs)) = _
      rw [ths_id ih, thw_eq fun w ws e => hm ⟨w, ws, e⟩]
theorem rp_tr {t : Tr} (hT : Good t) : reprD t.d = some (.d (.str (rp t.d))) := by
  have := hT.rp
  cases t with
  | nd k xs =>
    have e : ∀ ds, ∃ es, k.mk ds = .tup es := by intro ds; cases k <;> exact ⟨_, rfl⟩
    obtain ⟨es, e⟩ := e (Tr.ds xs)
    have e : (Tr.nd k xs).d = .tup es := e
    rw [e] at this ⊢
    rw [reprD_t, if_pos this]
/-- a drawn tree -/
structure Dr (t : Tr) : Prop where
  ok : t.ok
  wk : t.wk
  tk : t.tk
  dep : t.dep ≤ 7
  sz : t.sz ≤ 40
/-- a tree that is asked of -/
structure Ak (t : Tr) : Prop where
  ok : t.ok
  wk : t.wk
  tk : t.th.tk
  dep : t.dep ≤ 8
  sz : t.sz ≤ 200
theorem Dr.ak {t : Tr} (h : Dr t) : Ak t := ⟨h.ok, h.wk, th_tk 7 t h.dep h.ok h.tk, by have := h.dep; omega, by have := h.sz; omega⟩
theorem melt_ak {a b c : Str} (ha : Wd a) (hb : Wd b) (hc : Wd c) (hab : wordB a = true) {x y z : Tr} (hx : Dr x) (hy : Dr y) (hz : Dr z) : Ak (.nd (.melt a [b, c, b]) [x, y, .nd (.num 2) [], z]) where
  ok := ⟨⟨rfl, by show 3 ≤ 1000; omega⟩, hx.ok, hy.ok, ⟨rfl, trivial⟩, hz.ok, trivial⟩
  wk := ⟨⟨ha, fun v hv => by
    simp only [List.mem_cons, List.not_mem_nil, or_false] at hv
    rcases hv with e | e | e <;> rw [e] <;> assumption⟩, hx.wk, hy.wk, ⟨⟨by decide, by decide⟩, trivial⟩, hz.wk, trivial⟩
  tk := ⟨⟨hab, by show 3 ≤ 4; omega⟩, th_tk 7 x hx.dep hx.ok hx.tk, th_tk 7 y hy.dep hy.ok hy.tk, ⟨trivial, trivial⟩, trivial⟩
  dep := by
    have h1 := hx.dep
    have h2 := hy.dep
    have h3 := hz.dep
    show max x.dep (max y.dep (max 1 (max z.dep 0))) + 1 ≤ 8
    omega
  sz := by
    have h1 := hx.sz
    have h2 := hy.sz
    have h3 := hz.sz
    show x.sz + (y.sz + (1 + (z.sz + 0))) + 1 ≤ 200
    omega
theorem leaf_ak (k : Kd) (h : k.ar 0) (hw : k.wk) (ht : k.tk 0) : Ak (.nd k []) := ⟨⟨h, trivial⟩, ⟨hw, trivial⟩, th_tk 1 (.nd k []) (Nat.le_refl 1) ⟨h, trivial⟩ ⟨ht, trivial⟩, by show 1 ≤ 8; decide, by show 1 ≤ 200; decide⟩
theorem main (ns : List Int) (hl : ns.length ≤ 63) : ∃ fin, g_law (den 100) [.d (scrD ns)] = .ok (.d (.bl true)) fin := by
  obtain ⟨g, hg, hb⟩ := bag_eq (den 99) ns hl
  suffices h : (g_law (den 100) [.d (scrD ns)]).wp fun r _ => r = .d (.bl true) by
    obtain ⟨a, S, e, h⟩ := CR.wp_ok h
    exact ⟨S, by rw [e, h]⟩
  refine run_wp rfl ?_
  unfold b_law
  have dt : den 100 "_law_take" = g__law_take (den 99) := den__law_take 99
  simp -dsimp [List.replicate, den__law_bag, hb]
  refine words_wp 98 g hg fun ws g hw5 hw hwb hnd hg => ?_
  simp -dsimp
  obtain ⟨g0, hg0⟩ : ∃ g0, g0 = g := ⟨_, rfl⟩
  rw [← hg0]
  rw [← hg0] at hg
  obtain ⟨I, hI⟩ : ∃ I : List D → List D → SS → Prop, I = fun ds acc S => ∃ (g : Bag) (ts : List Tr) (s8 : Option Ev.M), g.Ok ∧ acc = Tr.ds ts ∧ (∀ t ∈ ts, Dr t) ∧ ts.length + ds.length = 4 ∧
      S = [some (.d (scrD ns)), some g.enc, some (.lst (ws.map .str)), none, none, none, none, none, none, s8] := ⟨_, rfl⟩
  refine wp_lc (ds := rangeD 0 4) (S1 := [some (.d (scrD ns)), some g0.enc, some (.lst (ws.map .str)), none, none, none, none, none, none, none]) I (by simp -dsimp) (by
      rw [hI]
      exact ⟨g0, [], _, hg, rfl, by simp, by unfold rangeD; simp, rfl⟩) ?_ ?_
  · intro d ds acc S hS
    rw [hI] at hS
    obtain ⟨g, ts, s8, hg, rfl, ht, tl, rfl⟩ := hS
    rw [List.length_cons] at tl
    refine ⟨[some (.d (scrD ns)), some g.enc, some (.lst (ws.map .str)), none, none, none, none, none, none, some (.d d)], rfl, ?_⟩
    simp -dsimp [tTrue, dt]
    refine take_wp _ g _ hg (by decide) (by decide) fun u g u0 u1 hg => ?_
    obtain ⟨r, r0, r1, er⟩ : ∃ r : Int, 0 ≤ r ∧ r ≤ 40 ∧ atI [D.int 6, .int 20, .int 40] u = some (.int r) := by
      have : u = 0 ∨ u = 1 ∨ u = 2 := by omega
      rcases this with e | e | e <;> subst e
      · exact ⟨6, by omega, by omega, atI_ok (by decide) rfl⟩
      · exact ⟨20, by omega, by omega, atI_ok (by decide) rfl⟩
      · exact ⟨40, by omega, by omega, atI_ok (by decide) rfl⟩
    simp -dsimp [dt, er]
    refine take_wp _ g _ hg (by decide) (by decide) fun w g w0 w1 hg => ?_
    obtain ⟨q, hq⟩ : ∃ q : Int, q = 2 + w := ⟨_, rfl⟩
    have hA : AnyOk (den 100) ws q := any_wp ws hw5 hw hwb hnd 62 35 q (by omega) (by omega)
    simp -dsimp [← hq]
    refine hA g r _ hg r0 (by omega) fun t g tok twk ttk tdp tsz hg => ?_
    simp -dsimp [show (Tr.ds ts).length < 16777216 by rw [ds_len]; omega]
    refine ⟨_, _, ⟨rfl, rfl⟩, ?_⟩
    rw [hI]
    refine ⟨g, ts ++ [t], _, hg, by rw [ds_app]; rfl, fun x hx => ?_, by rw [List.length_append, List.length_singleton]; omega, rfl⟩
    rcases List.mem_append.mp hx with hx | hx
    · exact ht x hx
    · rw [List.mem_singleton.mp hx]
      exact ⟨tok, twk, ttk, by omega, by omega⟩
  intro acc S hS
  rw [hI] at hS
  obtain ⟨g, ts, s8, hg, rfl, ht, tl, rfl⟩ := hS
  obtain ⟨t0, t1, t2, t3, rfl⟩ := len4 (show ts.length = 4 by simpa using tl)
  obtain ⟨v0, v1, v2, v3, v4, rfl⟩ := len5 hw5
  rw [show restS [some (.d (scrD ns)), some g0.enc, some (.lst ([v0, v1, v2, v3, v4].map .str)), none, none, none, none, none, none, none] [some (.d (scrD ns)), some g.enc, some (.lst ([v0, v1, v2, v3, v4].map .str)), none, none, none, none, none, none, s8] [9] =
    [some (.d (scrD ns)), some g.enc, some (.lst ([v0, v1, v2, v3, v4].map .str)), none, none, none, none, none, none, none] from rfl]
  have de : Tr.ds [t0, t1, t2, t3] = [t0.d, t1.d, t2.d, t3.d] := rfl
  have h0 := ht t0 (by simp)
  have h1 := ht t1 (by simp)
  have h2 := ht t2 (by simp)
  have h3 := ht t3 (by simp)
  have hm := melt_ak (hw v0 (by simp)) (hw v1 (by simp)) (hw v2 (by simp)) (hwb v0 (by simp)) h0 h1 h2
  simp -dsimp [de, dt]
  refine take_wp _ g _ hg (by decide) (by decide) fun u g u0 u1 hg => ?_
  obtain ⟨k, hk, er⟩ : ∃ k : Kd, Ak (.nd k []) ∧ atI [D.tup [.str "number", .int 1], .tup [.str "truth", .bl true], .tup [.str "name", .str v4]] u = some (k.mk []) := by
    have : u = 0 ∨ u = 1 ∨ u = 2 := by omega
    rcases this with e | e | e <;> subst e
    · exact ⟨.num 1, leaf_ak _ rfl ⟨by decide, by decide⟩ trivial, atI_ok (by decide) rfl⟩
    · exact ⟨.tru true, leaf_ak _ rfl trivial trivial, atI_ok (by decide) rfl⟩
    · exact ⟨.nam v4, leaf_ak _ rfl (hw v4 (by simp)) (hwb v4 (by simp)), atI_ok (by decide) rfl⟩
  have cu : ∀ a b c d e f : D, cutD [a, b, c, d, e, f] none (some 1) = [a] := fun a b c d e f => cut_n1 a _
  simp -dsimp [er, cu]
  obtain ⟨J, hJ⟩ : ∃ J : SS → Prop, J = fun S => ∃ (g : Bag) (l : List D) (s4 s5 s6 s7 s8 : Option Ev.M), g.Ok ∧ S = [some (.d (scrD ns)), some g.enc, some (.lst [.str v0, .str v1, .str v2, .str v3, .str v4]), some (.lst l), s4, s5, s6, s7, s8, none] := ⟨_, rfl⟩
  refine wp_for1 (fun d => ∃ t, Ak t ∧ d = t.d) J (fun d hd => ?_) (by rw [hJ]; exact ⟨_, _, _, _, _, _, _, hg, rfl⟩) ?_ ?_
  · simp only [List.mem_cons, List.not_mem_nil, or_false, List.mem_append] at hd
    rcases hd with e | e | e | e | e | e | e
    · exact ⟨t0, h0.ak, e⟩
    · exact ⟨t1, h1.ak, e⟩
    · exact ⟨t2, h2.ak, e⟩
    · exact ⟨t3, h3.ak, e⟩
    · exact ⟨_, hm, e⟩
    · exact ⟨_, hk, e⟩
    · exact ⟨t0, h0.ak, e⟩
  · rintro d S ⟨t, hT, rfl⟩ hS
    rw [hJ] at hS
    obtain ⟨g, l, s4, s5, s6, s7, s8, hg, rfl⟩ := hS
    refine ⟨[some (.d (scrD ns)), some g.enc, some (.lst [.str v0, .str v1, .str v2, .str v3, .str v4]), some (.lst l), some (.d t.d), s5, s6, s7, s8, none], rfl, ?_⟩
    have le := th_le 8 t hT.dep
    have tsz := hT.sz
    have tdp := hT.dep
    have tho := th_ok 8 t hT.dep hT.ok
    have thw := th_wk 8 t hT.dep hT.wk
    have g1 : Good t := ⟨hT.ok, hT.wk, by omega, by omega⟩
    have g2 : Good t.th := ⟨tho, thw, by omega, by omega⟩
    have r1 := rp_tr g1
    have r2 := rp_tr g2
    obtain ⟨f, ef⟩ : ∃ f, den 100 "_law_thawed" [.d t.d] = .ok (.d t.th.d) [f] := lth_ex 64 35 t hT.ok (by omega)
    have e1 : den 100 "thawed" [.d t.d] = .ok (.d t.th.d) [some (.d t.d)] := thawed_eq 64 35 t hT.ok (by omega)
    have e2 : den 100 "thawed" [.d t.th.d] = .ok (.d t.th.d) [some (.d t.th.d)] := by
      have := thawed_eq 64 35 t.th tho (by omega)
      rw [th_th 8 t hT.dep] at this
      exact this
    have e3 : den 100 "is_tree" [.d t.th.d] = .ok (.d (.bl true)) [some (.d t.th.d)] := tree_ok 95 t.th tho thw hT.tk (by omega) (by omega)
    have hM : MelOk (den 100) [v0, v1, v2, v3, v4] 8 := melted_wp [v0, v1, v2, v3, v4] hw5 hw hwb hnd 7 87
    simp -dsimp [ef, e1, e2, e3, r1, r2]
    refine hM t.th g _ hg tho thw hT.tk (by omega) fun u g f2 hu hg => ?_
    have usz := hu.sz
    have udp := hu.dep
    have e4 : den 100 "is_tree" [.d u.d] = .ok (.d (.bl true)) [some (.d u.d)] := tree_ok 95 u hu.ok hu.wk hu.tk (by omega) (by omega)
    have e5 : den 100 "thawed" [.d u.d] = .ok (.d t.th.d) [some (.d u.d)] := by
      have := thawed_eq 64 35 u hu.ok (by omega)
      rw [hu.th, th_th 8 t hT.dep] at this
      exact this
    simp -dsimp [e4, e5, r2]
    rw [hJ]
    exact ⟨_, _, _, _, _, _, _, hg, rfl⟩
  · intro S hS
    rw [hJ] at hS
    obtain ⟨g, l, s4, s5, s6, s7, s8, hg, rfl⟩ := hS
    simp -dsimp
end Ev
open PySem PySem.W PyProof.Rows
set_option maxHeartbeats 0 in
theorem PySem.Challenge.cw_callmelt_k16_thawed_holds : PySem.Challenge.rw_callmelt_k16_thawed.Holds := by
  w_on; o_law; k_head; (case hw => w_witness2)
  k_fill
  refine Ev.walk_g (l := PySem.Challenge.rw_callmelt_k16_thawed) (n := 63) (k := 100 + 1) (x := "_law_script") (sp := fun w => Ev.spD _ 1 (Ev.g_law (Ev.den 100))) rfl (by decide) rfl ⟨⟨rfl, by decide, by decide⟩, rfl⟩ (fun w h Y => PySem.W.kIn_of Y) ?F (fun _ H a ns hl hO hS => Ev.law_sp hO hS (Ev.main ns hl))
  case F =>
    intro w mg fa h KX G hmg
    refine' Ev.all_mk KX G hmg ?a1 ?l1 ?c1 ?k1 ?a2 ?l2 ?c2 ?k2 ?a3 ?l3 ?c3 ?k3 ?a4 ?l4 ?c4 ?k4 ?a5 ?l5 ?c5 ?k5 ?a6 ?l6 ?c6 ?k6 ?a7 ?l7 ?c7 ?k7 ?a8 ?l8 ?c8 ?k8 ?a9 ?l9 ?c9 ?k9 ?a10 ?l10 ?c10 ?k10 ?a11 ?l11 ?c11 ?k11 ?a12 ?l12 ?c12 ?k12 ?a13 ?l13 ?c13 ?k13 ?a14 ?l14 ?c14 ?k14 ?a15 ?l15 ?c15 ?k15 ?a16 ?l16 ?c16 ?k16 ?a17 ?l17 ?c17 ?k17 ?a18 ?l18 ?c18 ?k18 ?a19 ?l19 ?c19 ?k19 ?a20 ?l20 ?c20 ?k20 ?a21 ?l21 ?c21 ?k21 ?a22 ?l22 ?c22 ?k22 ?a23 ?l23 ?c23 ?k23 ?a24 ?l24 ?c24 ?k24 ?z1 ?z2 ?z3 ?z4 ?z5 ?z6 ?z7 ?z8 ?z9 ?z10 ?z11 ?z12 ?z13 ?z14 ?z15 ?y15 ?yc15 ?yd15 ?ye15 ?z16 ?z17 ?z18 ?z19 ?z20 ?y20 ?yc20 ?yd20 ?ye20 ?z21 ?y21 ?yc21 ?yd21 ?ye21 ?z22 ?y22 ?yx22 ?yd22 ?yt22 ?yc22 ?z23 ?z24 ?z25 ?z26
    (case a1 => k_is); (case l1 => k_is); (case c1 => k_is); (case k1 => k_is); (case a2 => k_is); (case l2 => k_is); (case c2 => k_is); (case k2 => k_is); (case a3 => k_is); (case l3 => k_is); (case c3 => k_is); (case k3 => k_is); (case a4 => k_is); (case l4 => k_is); (case c4 => k_is); (case k4 => k_is); (case a5 => k_is); (case l5 => k_is); (case c5 => k_is); (case k5 => k_is); (case a6 => k_is); (case l6 => k_is); (case c6 => k_is); (case k6 => k_is); (case a7 => k_is); (case l7 => k_is); (case c7 => k_is); (case k7 => k_is); (case a8 => k_is); (case l8 => k_is); (case c8 => k_is); (case k8 => k_is); (case a9 => k_is); (case l9 => k_is); (case c9 => k_is); (case k9 => k_is); (case a10 => k_is); (case l10 => k_is); (case c10 => k_is); (case k10 => k_is); (case a11 => k_is); (case l11 => k_is); (case c11 => k_is); (case k11 => k_is); (case a12 => k_is); (case l12 => k_is); (case c12 => k_is); (case k12 => k_is); (case a13 => k_is); (case l13 => k_is); (case c13 => k_is); (case k13 => k_is); (case a14 => k_is); (case l14 => k_is); (case c14 => k_is); (case k14 => k_is); (case a15 => k_is); (case l15 => k_is); (case c15 => k_is); (case k15 => k_is); (case a16 => k_is); (case l16 => k_is); (case c16 => k_is); (case k16 => k_is); (case a17 => k_is); (case l17 => k_is); (case c17 => k_is); (case k17 => k_is); (case a18 => k_is); (case l18 => k_is); (case c18 => k_is); (case k18 => k_is); (case a19 => k_is); (case l19 => k_is); (case c19 => k_is); (case k19 => k_is); (case a20 => k_is); (case l20 => k_is); (case c20 => k_is); (case k20 => k_is); (case a21 => k_is); (case l21 => k_is); (case c21 => k_is); (case k21 => k_is); (case a22 => k_is); (case l22 => k_is); (case c22 => k_is); (case k22 => k_is); (case a23 => k_is); (case l23 => k_is); (case c23 => k_is); (case k23 => k_is); (case a24 => k_is); (case l24 => k_is); (case c24 => k_is); (case k24 => k_is); (case z1 => k_is); (case z2 => k_is); (case z3 => k_is); (case z4 => k_is); (case z5 => k_is); (case z6 => k_is); (case z7 => k_is); (case z8 => k_is); (case z9 => k_is); (case z10 => k_is); (case z11 => k_is); (case z12 => k_is); (case z13 => k_is); (case z14 => k_is); (case z15 => k_is); (case y15 => k_is); (case yc15 => rfl); (case yd15 => rfl); (case ye15 => decide +kernel); (case z16 => k_is); (case z17 => k_is); (case z18 => k_is); (case z19 => k_is); (case z20 => k_is); (case y20 => k_is); (case yc20 => rfl); (case yd20 => rfl); (case ye20 => decide +kernel); (case z21 => k_is); (case y21 => k_is); (case yc21 => rfl); (case yd21 => rfl); (case ye21 => decide +kernel); (case z22 => k_is); (case y22 => k_is); (case yx22 => exact ⟨rfl, rfl, rfl⟩); (case yd22 => rfl); (case yt22 => repeat (first | exact trivial | refine ⟨⟨rfl, ⟨_, rfl⟩, _, rfl⟩, ?_⟩)); (case yc22 => rfl); (case z23 => k_is); (case z24 => k_is); (case z25 => k_is); (case z26 => k_is)
