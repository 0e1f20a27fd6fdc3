import PyProof.Rows.All
import Wide.All
import OpenK.AllK
import Wide.FinOn
import HandS.ForMost
import HandS.Wide
import HandS.IsInst
import HandS.Zip
import HandS.TupAny
import HandS.Style
import KE.DataEq
import HandS.TupMul
import PyProof.NeKinds
import HandS.RaiseMore
import HandS.Defaults
import HandS.StrMore
import KE.GoesMore
import KE.KIntText
import PyProof.Rows.StrCut
import HandS.FStrTup
import PyProof.Rows.ReprR
import KE.KUnpackStar
import PyProof.AutoListH
import PyProof.Rows.SetFrom
import HandS.Strs
import PyProof.Rows.MinMaxGenD
import HandS.SortKw
import HandS.Set
import HandS.Sort
import HandS.SetFor
import PyProof.Rows.SortShellAny
import HandS.FStr
import HandS.Text
import HandS.ReplaceLit
import HandS.ReplaceList
import HandS.SetBool
import HandS.DictComp
import PyProof.ZipIter
import KE.KDictZip
import HandS.Zip0
import HandS.ExcValue
import HandS.ExcCtx
import HandS.ExcInit
import HandS.WordsExc
import HandS.Finally
import HandS.SuiteRaise
import KE.KExcRaise
import HandS.ClsMeth
import HandS.ExcField
import HandS.ExcIs
import KE.KExcIs
import KE.KDictPairs
import HandS.MakeKwOnly
import KE.SortData
import KE.DataCmp
import KE.DataFind
import PyProof.FactsAll.dict
import PyProof.EqKinds
import PySem.Challenge.RW_callmelt_k85_best_of_all_takings
set_option Elab.async false
set_option linter.all false
set_option maxRecDepth 100000
set_option backward.match.sparseCases false
namespace Ev
open PySem PySem.Spec L2
open PyProof.Rows hiding St

/-- frozen data -/
inductive D where
  | non | bl (b : Bool) | int (i : Int) | str (x : Str) | tup (xs : List D) | lst (xs : List D)
  | dk (kvs : List (Key × D))
  | dt (kvs : List (List Key × D))
  | obj (c : Str) (fs : List (Str × D))
  | fn (x : Str)
  | ty (n : String)
  | scr (xs : List D)
  /-- any object: nothing is known of it -/
  | any
  /-- a dict of which nothing more is known -/
  | odk
/-- an exception: its class, its fields -/
structure Exn where
  cls : Str
  fs : List (Str × D)
/-- a thing that its place owns, or frozen data; seq, box, ob: a list, a tuple, an object of owned things; exn: the exception that is handled -/
inductive M where
  | d (x : D)
  | lst (xs : List D)
  | dk (kvs : List (Key × D))
  | dt (kvs : List (List Key × D))
  | seq (xs : List M)
  | box (xs : List M)
  | ob (c : Str) (ns : List Str) (ms : List M)
  | exn (x : Exn)
mutual
noncomputable def M.toD : M → D
  | .d x => x
  | .lst xs => .lst xs
  | .dk kvs => .dk kvs
  | .dt kvs => .dt kvs
  | .seq xs => .lst (M.toDs xs)
  | .box xs => .tup (M.toDs xs)
  | .ob c ns ms => .obj c (ns.zip (M.toDs ms))
  | .exn _ => .any
noncomputable def M.toDs : List M → List D
  | [] => []
  | m :: ms => m.toD :: M.toDs ms
end
/-- what may be read of it without a look at its owned parts -/
noncomputable def M.vw : M → Option D
  | .d x => some x
  | .lst xs => some (.lst xs)
  | .dk kvs => some (.dk kvs)
  | .dt kvs => some (.dt kvs)
  | _ => none
noncomputable abbrev SS := List (Option M)
inductive R (α : Type) where
  | ok (a : α) (S : SS)
  | ex (x : Exn) (S : SS)
  | no
/-- a mark that keeps simp from going into what is still to come -/
structure Ph.{u} {α : Sort u} (a : α) : Type where
  mk ::
noncomputable def R.bind {α β : Type} (r : R α) (g : α → SS → R β) (_ : Ph g := ⟨⟩) : R β := match r with
  | .ok a S => g a S
  | .ex x S => .ex x S
  | .no => .no
/-- an operand: a value, or a name's slot -/
inductive Ov where
  | d (x : D)
  | j (i : Nat)
noncomputable def SS.at (S : SS) (i : Nat) : Option M := (S[i]?).join
noncomputable def Ov.get : Ov → SS → Option D
  | .d x, _ => some x
  | .j i, S => (S.at i).bind M.vw
/-- the text's objects, which class has which name, the exception that is handled (its object's place, class, dict) -/
structure KG where
  k : PySem.W.Frag
  cl : Str → Option Addr
  xn : Option (Addr × Value × Option Addr)
instance : CoeOut KG PySem.W.Frag := ⟨KG.k⟩

/-- there stands a dict -/
noncomputable def isDct (a : Addr) : Heap → Prop := fun h => ∃ o, h.get? a = some o ∧ o.cls = .type "dict"
mutual
inductive RepD (K : KG) (F : Hp) : V → D → Prop
  | non : RepD K F .non .non
  | bl (b : Bool) : RepD K F (.bl b) (.bl b)
  | int (i : Int) : RepD K F (.int i) (.int i)
  | str (x : Str) : RepD K F (.str x) (.str x)
  | tup {a : Addr} {vs : List V} {ds : List D} : SqT K F a vs → RepDs K F vs ds → RepD K F (.ref a) (.tup ds)
  | lst {a : Addr} {vs : List V} {ds : List D} : Rd F a (.lst vs) → RepDs K F vs ds → RepD K F (.ref a) (.lst ds)
  | ty (n : String) : RepD K F (.ty n) (.ty n)
  | scr {a : Addr} {vs : List V} {ds : List D} : SqL K F a vs → RepDs K F vs ds → RepD K F (.ref a) (.scr ds)
  | dk {a : Addr} {ks : List Key} {vs : List V} {ds : List D} : Rd F a (.dK (ks.zip vs)) → ks.length = vs.length → RepDs K F vs ds → RepD K F (.ref a) (.dk (ks.zip ds))
  | dt {a : Addr} {ks : List (List Key)} {vs : List V} {ds : List D} : F a = some (.dT (ks.zip vs)) → ks.length = vs.length → RepDs K F vs ds → RepD K F (.ref a) (.dt (ks.zip ds))
  | obj {a C dx : Addr} {c : Str} {ns : List Str} {vs : List V} {ds : List D} : K.cl c = some C → F a = some (.ins C dx (ns.zip vs)) → ns.length = vs.length → RepDs K F vs ds → RepD K F (.ref a) (.obj c (ns.zip ds))
  | any (a : Addr) : RepD K F (.ref a) .any
  | odk {a : Addr} : F a = some (.ext (isDct a)) → RepD K F (.ref a) .odk
inductive RepDs (K : KG) (F : Hp) : List V → List D → Prop
  | nil : RepDs K F [] []
  | cons {v : V} {vs : List V} {d : D} {ds : List D} : RepD K F v d → RepDs K F vs ds → RepDs K F (v :: vs) (d :: ds)
end

/-- F is kept in F' -/
noncomputable def Le (F F' : Hp) : Prop := ∀ a o, F a = some o → F' a = some o
theorem Le.refl (F : Hp) : Le F F := fun _ _ h => h
theorem Le.trans {F F1 F2 : Hp} (a : Le F F1) (b : Le F1 F2) : Le F F2 := fun x o h => b x o (a x o h)
theorem Le.rd {F F' : Hp} (l : Le F F') {a : Addr} {u : HO} (h : Rd F a u) : Rd F' a u := by
  rcases h with h | ⟨o, h⟩
  · exact .inl (l _ _ h)
  · exact .inr ⟨o, l _ _ h⟩
theorem Le.sl {K : KG} {F F' : Hp} (l : Le F F') {a : Addr} {xs : List V} (h : SqL K F a xs) : SqL K F' a xs := by
  rcases h with h | h
  · exact .inl (l.rd h)
  · exact .inr h
theorem Le.st {K : KG} {F F' : Hp} (l : Le F F') {a : Addr} {xs : List V} (h : SqT K F a xs) : SqT K F' a xs := by
  rcases h with h | h
  · exact .inl (l.rd h)
  · exact .inr h
mutual
theorem RepD.mono {K : KG} {F F' : Hp} (l : Le F F') : ∀ {v : V} {d : D}, RepD K F v d → RepD K F' v d
  | _, _, .non => .non
  | _, _, .bl b => .bl b
  | _, _, .int b => .int b
  | _, _, .str b => .str b
  | _, _, .tup h r => .tup (l.st h) (RepDs.mono l r)
  | _, _, .lst h r => .lst (l.rd h) (RepDs.mono l r)
  | _, _, .ty n => .ty n
  | _, _, .scr h r => .scr (l.sl h) (RepDs.mono l r)
  | _, _, .dk h e r => .dk (l.rd h) e (RepDs.mono l r)
  | _, _, .dt h e r => .dt (l _ _ h) e (RepDs.mono l r)
  | _, _, .obj c h e r => .obj c (l _ _ h) e (RepDs.mono l r)
  | _, _, .any a => .any a
  | _, _, .odk h => .odk (l _ _ h)
theorem RepDs.mono {K : KG} {F F' : Hp} (l : Le F F') : ∀ {v : List V} {d : List D}, RepDs K F v d → RepDs K F' v d
  | _, _, .nil => .nil
  | _, _, .cons h r => .cons (RepD.mono l h) (RepDs.mono l r)
end
mutual
/-- frozen data do not look at the exception that is handled -/
theorem RepD.cx {K K' : KG} {F : Hp} (h1 : K.k = K'.k) (h2 : K.cl = K'.cl) : ∀ {v : V} {d : D}, RepD K F v d → RepD K' F v d
  | _, _, .non => .non
  | _, _, .bl b => .bl b
  | _, _, .int b => .int b
  | _, _, .str b => .str b
  | _, _, .tup h r => .tup (h1 ▸ h) (RepDs.cx h1 h2 r)
  | _, _, .lst h r => .lst h (RepDs.cx h1 h2 r)
  | _, _, .ty n => .ty n
  | _, _, .scr h r => .scr (h1 ▸ h) (RepDs.cx h1 h2 r)
  | _, _, .dk h e r => .dk h e (RepDs.cx h1 h2 r)
  | _, _, .dt h e r => .dt h e (RepDs.cx h1 h2 r)
  | _, _, .obj c h e r => .obj (h2 ▸ c) h e (RepDs.cx h1 h2 r)
  | _, _, .any v => .any v
  | _, _, .odk h => .odk h
theorem RepDs.cx {K K' : KG} {F : Hp} (h1 : K.k = K'.k) (h2 : K.cl = K'.cl) : ∀ {v : List V} {d : List D}, RepDs K F v d → RepDs K' F v d
  | _, _, .nil => .nil
  | _, _, .cons h r => .cons (RepD.cx h1 h2 h) (RepDs.cx h1 h2 r)
end
theorem RepDs.len {K : KG} {F : Hp} : ∀ {v : List V} {d : List D}, RepDs K F v d → v.length = d.length
  | _, _, .nil => rfl
  | _, _, .cons _ r => congrArg (· + 1) (RepDs.len r)
theorem RepDs.get {K : KG} {F : Hp} : ∀ {v : List V} {d : List D} {i : Nat} {x : D}, RepDs K F v d → d[i]? = some x → ∃ u, v[i]? = some u ∧ RepD K F u x
  | _, _, _, _, .nil, e => by simp at e
  | _, _, 0, _, .cons h r, e => by simp at e; subst e; exact ⟨_, rfl, h⟩
  | _, _, i + 1, x, .cons _ r, e => by
    obtain ⟨u, h1, h2⟩ := RepDs.get (i := i) (x := x) r (by simpa using e)
    exact ⟨u, by simpa using h1, h2⟩
theorem RepDs.getV {K : KG} {F : Hp} : ∀ {v : List V} {d : List D} {i : Nat} {x : V}, RepDs K F v d → v[i]? = some x → ∃ u, d[i]? = some u ∧ RepD K F x u
  | _, _, _, _, .nil, e => by simp at e
  | _, _, 0, _, .cons h r, e => by simp at e; subst e; exact ⟨_, rfl, h⟩
  | _, _, i + 1, x, .cons _ r, e => by
    obtain ⟨u, h1, h2⟩ := RepDs.getV (i := i) (x := x) r (by simpa using e)
    exact ⟨u, by simpa using h1, h2⟩
theorem RepDs.append {K : KG} {F : Hp} : ∀ {v v' : List V} {d d' : List D}, RepDs K F v d → RepDs K F v' d' → RepDs K F (v ++ v') (d ++ d')
  | _, _, _, _, .nil, s => s
  | _, _, _, _, .cons h r, s => .cons h (RepDs.append r s)
theorem RepDs.set {K : KG} {F : Hp} {x : V} {y : D} (h : RepD K F x y) : ∀ {v : List V} {d : List D} (i : Nat), RepDs K F v d → RepDs K F (v.set i x) (d.set i y)
  | _, _, _, .nil => .nil
  | _, _, 0, .cons _ r => .cons h r
  | _, _, i + 1, .cons q r => .cons q (RepDs.set h i r)
theorem RepDs.take {K : KG} {F : Hp} : ∀ {v : List V} {d : List D} (n : Nat), RepDs K F v d → RepDs K F (v.take n) (d.take n)
  | _, _, 0, _ => .nil
  | _, _, _ + 1, .nil => .nil
  | _, _, n + 1, .cons h r => .cons h (RepDs.take n r)
theorem RepDs.drop {K : KG} {F : Hp} : ∀ {v : List V} {d : List D} (n : Nat), RepDs K F v d → RepDs K F (v.drop n) (d.drop n)
  | _, _, 0, r => r
  | _, _, _ + 1, .nil => .nil
  | _, _, n + 1, .cons h r => RepDs.drop n r
theorem RepDs.dropLast {K : KG} {F : Hp} {v : List V} {d : List D} (h : RepDs K F v d) : RepDs K F v.dropLast d.dropLast := by
  rw [List.dropLast_eq_take, List.dropLast_eq_take, h.len]
  exact h.take _
theorem RepDs.snoc {K : KG} {F : Hp} {v : List V} {d : List D} {x : V} {y : D} (h : RepDs K F v d) (r : RepD K F x y) : RepDs K F (v ++ [x]) (d ++ [y]) := h.append (.cons r .nil)
theorem RepDs.reverse {K : KG} {F : Hp} : ∀ {v : List V} {d : List D}, RepDs K F v d → RepDs K F v.reverse d.reverse
  | _, _, .nil => .nil
  | _, _, .cons h r => by
    rw [List.reverse_cons, List.reverse_cons]
    exact (RepDs.reverse r).snoc h

/-- an exception of this class and dict is x -/
noncomputable def RepX (K : KG) (F : Hp) (x : Exn) (cls : Value) (d : Option Addr) : Prop :=
  ∃ C, K.cl x.cls = some C ∧ cls = .ref C ∧ (x.fs = [] ∧ d = none ∨ ∃ (dd : Addr) (ns : List Str) (vs : List V) (ds : List D), d = some dd ∧ F dd = some (.xd (ns.zip vs)) ∧ ns.length = vs.length ∧ RepDs K F vs ds ∧ x.fs = ns.zip ds)
theorem RepX.mono {K : KG} {F F' : Hp} (l : Le F F') {x : Exn} {cls : Value} {d : Option Addr} (h : RepX K F x cls d) : RepX K F' x cls d := by
  obtain ⟨C, h1, h2, h3⟩ := h
  refine ⟨C, h1, h2, ?_⟩
  rcases h3 with h3 | ⟨dd, ns, vs, ds, e1, e2, e3, e4, e5⟩
  · exact .inl h3
  · exact .inr ⟨dd, ns, vs, ds, e1, l _ _ e2, e3, e4.mono l, e5⟩

/-! ### places -/
inductive Rt where
  | s (i : Nat) | r
  deriving DecidableEq
noncomputable abbrev Pl := Rt × List Nat
noncomputable abbrev OW := Addr → Option Pl
structure Bs (H F : Hp) (O : OW) : Prop where
  fh : Le F H
  fo : ∀ a q, O a = some q → F a = none ∧ ∃ o, H a = some o
structure Stp (H F : Hp) (O : OW) (H' F' : Hp) (O' : OW) : Prop where
  ff : Le F F'
  kp : ∀ a o, H a = some o → O a = none → H' a = some o
  nw : ∀ a q, O' a = some q → (∃ q', O a = some q') ∨ H a = none
  fz : ∀ a o, F' a = some o → F a = some o ∨ (∃ q, O a = some q) ∨ H a = none
  al : ∀ a o, H a = some o → ∃ o', H' a = some o'
theorem Stp.refl (H F : Hp) (O : OW) : Stp H F O H F O := ⟨Le.refl _, fun _ _ h _ => h, fun _ _ h => .inl ⟨_, h⟩, fun _ _ h => .inl h, fun _ o h => ⟨o, h⟩⟩
theorem Stp.trans {H F H1 F1 H2 F2 : Hp} {O O1 O2 : OW} (a : Stp H F O H1 F1 O1) (b : Stp H1 F1 O1 H2 F2 O2) : Stp H F O H2 F2 O2 := by
  have back : ∀ x, (∃ q', O1 x = some q') ∨ H1 x = none → (∃ q', O x = some q') ∨ H x = none := fun x h => by
    rcases h with ⟨q', h⟩ | h
    · exact a.nw x q' h
    · cases e : O x with
      | some q => exact .inl ⟨q, rfl⟩
      | none =>
        refine .inr ?_
        cases e2 : H x with
        | none => rfl
        | some o => rw [a.kp x o e2 e] at h; cases h
  refine ⟨a.ff.trans b.ff, fun x o h e => ?_, fun x q h => back x (b.nw x q h), fun x o h => ?_, fun x o h => let ⟨o1, h1⟩ := a.al x o h; b.al x o1 h1⟩
  · refine b.kp x o (a.kp x o h e) ?_
    cases e1 : O1 x with
    | none => rfl
    | some q =>
      rcases a.nw x q e1 with ⟨q', h'⟩ | h'
      · rw [e] at h'; cases h'
      · rw [h] at h'; cases h'
  · rcases b.fz x o h with h | h
    · exact a.fz x o h
    · exact .inr (back x h)

mutual
noncomputable def RepM (K : KG) (H F : Hp) (O : OW) : Pl → V → M → Prop
  | _, v, .d x => RepD K F v x
  | q, v, .lst ds => ∃ (a : Addr) (vs : List V), v = .ref a ∧ O a = some q ∧ H a = some (.lst vs) ∧ RepDs K F vs ds
  | q, v, .dk kd => ∃ (a : Addr) (ks : List Key) (vs : List V) (ds : List D), v = .ref a ∧ O a = some q ∧ H a = some (.dK (ks.zip vs)) ∧ ks.length = vs.length ∧ RepDs K F vs ds ∧ kd = ks.zip ds
  | q, v, .dt kd => ∃ (a : Addr) (ks : List (List Key)) (vs : List V) (ds : List D), v = .ref a ∧ O a = some q ∧ H a = some (.dT (ks.zip vs)) ∧ ks.length = vs.length ∧ RepDs K F vs ds ∧ kd = ks.zip ds
  | q, v, .seq ms => ∃ (a : Addr) (vs : List V), v = .ref a ∧ O a = some q ∧ H a = some (.lst vs) ∧ RepMs K H F O q 0 vs ms
  | q, v, .box ms => ∃ (a : Addr) (vs : List V), v = .ref a ∧ F a = some (.tup vs) ∧ RepMs K H F O q 0 vs ms
  | q, v, .ob c ns ms => ∃ (a C dx : Addr) (vs : List V), v = .ref a ∧ O a = some q ∧ K.cl c = some C ∧ H a = some (.ins C dx (ns.zip vs)) ∧ ns.length = vs.length ∧ RepMs K H F O q 0 vs ms
  | _, v, .exn x => ∃ a cls d, K.xn = some (a, cls, d) ∧ v = .ref a ∧ RepX K F x cls d
noncomputable def RepMs (K : KG) (H F : Hp) (O : OW) : Pl → Nat → List V → List M → Prop
  | _, _, vs, [] => vs = []
  | q, k, vs, m :: ms => ∃ v vs', vs = v :: vs' ∧ RepM K H F O (q.1, q.2 ++ [k]) v m ∧ RepMs K H F O q (k + 1) vs' ms
end
structure Rp (K : KG) (H F : Hp) (O : OW) (σ : St) (S : SS) : Prop where
  bs : Bs H F O
  len : S.length = σ.length
  sl : ∀ i m, S.at i = some m → ∃ v, σ[i]? = some (some v) ∧ RepM K H F O (.s i, []) v m

mutual
/-- the same at another root -/
theorem RepM.move {K : KG} {H F H' F' : Hp} {O O' : OW} {z z' : Rt} (ff : Le F F') (k : ∀ a o p, O a = some (z, p) → H a = some o → H' a = some o ∧ O' a = some (z', p)) : ∀ {m : M} {p : List Nat} {v : V}, RepM K H F O (z, p) v m → RepM K H' F' O' (z', p) v m
  | .d x, p, v, h => RepD.mono ff h
  | .lst ds, p, v, h => by
    obtain ⟨a, vs, e, ho, hh, r⟩ := h
    obtain ⟨k1, k2⟩ := k a _ p ho hh
    exact ⟨a, vs, e, k2, k1, r.mono ff⟩
  | .dk kd, p, v, h => by
    obtain ⟨a, ks, vs, ds, e, ho, hh, el, r, ek⟩ := h
    obtain ⟨k1, k2⟩ := k a _ p ho hh
    exact ⟨a, ks, vs, ds, e, k2, k1, el, r.mono ff, ek⟩
  | .dt kd, p, v, h => by
    obtain ⟨a, ks, vs, ds, e, ho, hh, el, r, ek⟩ := h
    obtain ⟨k1, k2⟩ := k a _ p ho hh
    exact ⟨a, ks, vs, ds, e, k2, k1, el, r.mono ff, ek⟩
  | .seq ms, p, v, h => by
    obtain ⟨a, vs, e, ho, hh, r⟩ := h
    obtain ⟨k1, k2⟩ := k a _ p ho hh
    exact ⟨a, vs, e, k2, k1, RepMs.move ff k r⟩
  | .box ms, p, v, h => by
    obtain ⟨a, vs, e, ht, r⟩ := h
    exact ⟨a, vs, e, ff _ _ ht, RepMs.move ff k r⟩
  | .ob c ns ms, p, v, h => by
    obtain ⟨a, C, dx, vs, e, ho, hc, hh, el, r⟩ := h
    obtain ⟨k1, k2⟩ := k a _ p ho hh
    exact ⟨a, C, dx, vs, e, k2, hc, k1, el, RepMs.move ff k r⟩
  | .exn x, p, v, h => by
    obtain ⟨a, cls, d, e1, e2, r⟩ := h
    exact ⟨a, cls, d, e1, e2, r.mono ff⟩
theorem RepMs.move {K : KG} {H F H' F' : Hp} {O O' : OW} {z z' : Rt} (ff : Le F F') (k : ∀ a o p, O a = some (z, p) → H a = some o → H' a = some o ∧ O' a = some (z', p)) : ∀ {ms : List M} {p : List Nat} {n : Nat} {vs : List V}, RepMs K H F O (z, p) n vs ms → RepMs K H' F' O' (z', p) n vs ms
  | [], p, n, vs, h => h
  | m :: ms, p, n, vs, h => by
    obtain ⟨v, vs', e, h1, h2⟩ := h
    exact ⟨v, vs', e, RepM.move ff k h1, RepMs.move ff k h2⟩
end
/-- what is at a place stays -/
theorem RepM.stay {K : KG} {H F H' F' : Hp} {O O' : OW} {q : Pl} {v : V} {m : M} (h : RepM K H F O q v m) (ff : Le F F') (k : ∀ a o p, O a = some (q.1, p) → H a = some o → H' a = some o ∧ O' a = some (q.1, p)) : RepM K H' F' O' q v m :=
  RepM.move (z := q.1) (z' := q.1) (p := q.2) ff k h
theorem RepMs.len {K : KG} {H F : Hp} {O : OW} {q : Pl} : ∀ {ms : List M} {k : Nat} {vs : List V}, RepMs K H F O q k vs ms → vs.length = ms.length
  | [], k, vs, h => by rw [show vs = [] from h]; rfl
  | m :: ms, k, vs, h => by
    obtain ⟨v, vs', e, _, h2⟩ := h
    rw [e, List.length_cons, List.length_cons, RepMs.len h2]

/-! ### views: what may be read now -/
inductive View (K : KG) (H F : Hp) : V → D → Prop
  | fz {v : V} {d : D} : RepD K F v d → View K H F v d
  | lst {a : Addr} {vs : List V} {ds : List D} : H a = some (.lst vs) → RepDs K F vs ds → View K H F (.ref a) (.lst ds)
  | dk {a : Addr} {ks : List Key} {vs : List V} {ds : List D} : H a = some (.dK (ks.zip vs)) → ks.length = vs.length → RepDs K F vs ds → View K H F (.ref a) (.dk (ks.zip ds))
  | dt {a : Addr} {ks : List (List Key)} {vs : List V} {ds : List D} : H a = some (.dT (ks.zip vs)) → ks.length = vs.length → RepDs K F vs ds → View K H F (.ref a) (.dt (ks.zip ds))
theorem RepM.view {K : KG} {H F : Hp} {O : OW} {q : Pl} {v : V} {m : M} {d : D} (h : RepM K H F O q v m) (hd : m.vw = some d) : View K H F v d := by
  cases m with
  | d x => cases hd; exact .fz h
  | lst ds =>
    cases hd
    obtain ⟨a, vs, e, ho, hh, r⟩ := h
    subst e
    exact .lst hh r
  | dk kd =>
    cases hd
    obtain ⟨a, ks, vs, ds, e, ho, hh, el, r, ek⟩ := h
    subst e ek
    exact .dk hh el r
  | dt kd =>
    cases hd
    obtain ⟨a, ks, vs, ds, e, ho, hh, el, r, ek⟩ := h
    subst e ek
    exact .dt hh el r
  | seq _ => cases hd
  | box _ => cases hd
  | ob _ _ _ => cases hd
  | exn _ => cases hd
section
variable {K : KG} {H F : Hp} {v : V}
theorem View.int {i : Int} (h : View K H F v (.int i)) : v = .int i := by
  cases h with
  | fz h => cases h; rfl
theorem View.bl {i : Bool} (h : View K H F v (.bl i)) : v = .bl i := by
  cases h with
  | fz h => cases h; rfl
theorem View.str {i : Str} (h : View K H F v (.str i)) : v = .str i := by
  cases h with
  | fz h => cases h; rfl
theorem View.non (h : View K H F v .non) : v = .non := by
  cases h with
  | fz h => cases h; rfl
theorem View.scr {ds : List D} (l : Le F H) (h : View K H F v (.scr ds)) : ∃ a vs, v = .ref a ∧ SqL K H a vs ∧ RepDs K F vs ds := by
  cases h with
  | fz h => cases h with | scr h r => exact ⟨_, _, rfl, l.sl h, r⟩
theorem View.ty {i : String} (h : View K H F v (.ty i)) : v = .ty i := by
  cases h with
  | fz h => cases h; rfl
theorem View.list {ds : List D} (l : Le F H) (h : View K H F v (.lst ds)) : ∃ a vs, v = .ref a ∧ Rd H a (.lst vs) ∧ RepDs K F vs ds := by
  cases h with
  | fz h => cases h with | lst h r => exact ⟨_, _, rfl, l.rd h, r⟩
  | lst h r => exact ⟨_, _, rfl, .inl h, r⟩
theorem View.tuple {ds : List D} (l : Le F H) (h : View K H F v (.tup ds)) : ∃ a vs, v = .ref a ∧ SqT K H a vs ∧ RepDs K F vs ds := by
  cases h with
  | fz h => cases h with | tup h r => exact ⟨_, _, rfl, l.st h, r⟩
end
/-- an operand stands for v -/
noncomputable def RepOv (K : KG) (F : Hp) (σ : St) (v : V) : Ov → Prop
  | .d x => RepD K F v x
  | .j i => σ[i]? = some (some v)
theorem RepOv.mono {K : KG} {F F' : Hp} {σ : St} {v : V} {o : Ov} (l : Le F F') (h : RepOv K F σ v o) : RepOv K F' σ v o := by
  cases o with
  | d x => exact RepD.mono l h
  | j i => exact h
theorem Rp.view {K : KG} {H F : Hp} {O : OW} {σ : St} {S : SS} {v : V} {o : Ov} {d : D} (r : Rp K H F O σ S) (h : RepOv K F σ v o) (e : o.get S = some d) : View K H F v d := by
  cases o with
  | d x =>
    cases e
    exact .fz h
  | j i =>
    have e : (S.at i).bind M.vw = some d := e
    cases e2 : S.at i with
    | none => rw [e2] at e; cases e
    | some m =>
      rw [e2] at e
      have e : m.vw = some d := e
      obtain ⟨w, hw, rm⟩ := r.sl i m e2
      have z : σ[i]? = some (some v) := h
      rw [hw] at z
      cases z
      exact rm.view e

/-! ### freezing a root -/
noncomputable def frzF (q : Rt) (H F : Hp) (O : OW) : Hp := fun a => match O a with
  | some (q', _) => if q' = q then H a else F a
  | none => F a
noncomputable def frzO (q : Rt) (O : OW) : OW := fun a => match O a with
  | some (q', p) => if q' = q then none else some (q', p)
  | none => none
section
variable {K : KG} {H F : Hp} {O : OW} {q : Rt}
theorem frz_bs (b : Bs H F O) : Bs H (frzF q H F O) (frzO q O) := by
  refine ⟨fun a o h => ?_, fun a p h => ?_⟩
  · unfold frzF at h
    cases e : O a with
    | none => rw [e] at h; exact b.fh a o h
    | some z =>
      rw [e] at h
      dsimp only at h
      split at h
      · exact h
      · exact b.fh a o h
  · unfold frzO at h
    unfold frzF
    cases e : O a with
    | none => rw [e] at h; cases h
    | some z =>
      rw [e] at h
      dsimp only at h ⊢
      split at h
      · cases h
      · rename_i ne
        rw [if_neg ne]
        exact b.fo a _ e
theorem frz_stp (b : Bs H F O) : Stp H F O H (frzF q H F O) (frzO q O) := by
  refine ⟨fun a o h => ?_, fun a o h _ => h, fun a p h => ?_, fun a o h => ?_, fun _ o h => ⟨o, h⟩⟩
  · unfold frzF
    cases e : O a with
    | none => exact h
    | some z =>
      have := (b.fo a z e).1
      rw [h] at this
      cases this
  · unfold frzO at h
    cases e : O a with
    | none => rw [e] at h; cases h
    | some z => exact .inl ⟨z, rfl⟩
  · unfold frzF at h
    cases e : O a with
    | none => rw [e] at h; exact .inl h
    | some z => exact .inr (.inl ⟨z, rfl⟩)
theorem frz_other {q' : Rt} {p : List Nat} {v : V} {m : M} (b : Bs H F O) (h : RepM K H F O (q', p) v m) (ne : q' ≠ q) : RepM K H (frzF q H F O) (frzO q O) (q', p) v m :=
  h.stay (frz_stp b).ff fun a o p e1 e2 => ⟨e2, by unfold frzO; rw [e1]; dsimp only; rw [if_neg ne]⟩
mutual
/-- frozen, and what is read is now frozen -/
theorem frzm {H F F' : Hp} {O : OW} {q : Rt} (ff : Le F F') (k : ∀ a o p, O a = some (q, p) → H a = some o → F' a = some o) : ∀ {m : M} {p : List Nat} {v : V}, RepM K H F O (q, p) v m → RepD K F' v m.toD
  | .d x, p, v, h => RepD.mono ff h
  | .lst ds, p, v, h => by
    obtain ⟨a, vs, e, ho, hh, r⟩ := h
    subst e
    exact .lst (.inl (k a _ p ho hh)) (r.mono ff)
  | .dk kd, p, v, h => by
    obtain ⟨a, ks, vs, ds, e, ho, hh, el, r, ek⟩ := h
    subst e ek
    exact .dk (.inl (k a _ p ho hh)) el (r.mono ff)
  | .dt kd, p, v, h => by
    obtain ⟨a, ks, vs, ds, e, ho, hh, el, r, ek⟩ := h
    subst e ek
    exact .dt (k a _ p ho hh) el (r.mono ff)
  | .seq ms, p, v, h => by
    obtain ⟨a, vs, e, ho, hh, r⟩ := h
    subst e
    exact .lst (.inl (k a _ p ho hh)) (frzms ff k r)
  | .box ms, p, v, h => by
    obtain ⟨a, vs, e, ht, r⟩ := h
    subst e
    exact .tup (.inl (.inl (ff _ _ ht))) (frzms ff k r)
  | .ob c ns ms, p, v, h => by
    obtain ⟨a, C, dx, vs, e, ho, hc, hh, el, r⟩ := h
    subst e
    exact .obj hc (k a _ p ho hh) el (frzms ff k r)
  | .exn x, p, v, h => by
    obtain ⟨a, cls, d, e1, e2, r⟩ := h
    subst e2
    exact .any a
theorem frzms {H F F' : Hp} {O : OW} {q : Rt} (ff : Le F F') (k : ∀ a o p, O a = some (q, p) → H a = some o → F' a = some o) : ∀ {ms : List M} {p : List Nat} {n : Nat} {vs : List V}, RepMs K H F O (q, p) n vs ms → RepDs K F' vs (M.toDs ms)
  | [], p, n, vs, h => by rw [show vs = [] from h]; exact .nil
  | m :: ms, p, n, vs, h => by
    obtain ⟨v, vs', e, h1, h2⟩ := h
    rw [e]
    exact .cons (frzm ff k h1) (frzms ff k h2)
end
theorem frz_rep {p : List Nat} {v : V} {m : M} (b : Bs H F O) (h : RepM K H F O (q, p) v m) : RepD K (frzF q H F O) v m.toD :=
  frzm (frz_stp b).ff (fun a o p e1 e2 => by unfold frzF; rw [e1]; dsimp only; rw [if_pos rfl]; exact e2) h
end
theorem SS.at_set {S : SS} {i j : Nat} {m : Option M} {x : M} (h : SS.at (S.set i m) j = some x) : (i = j ∧ m = some x) ∨ (i ≠ j ∧ S.at j = some x) := by
  unfold SS.at at h ⊢
  by_cases e : i = j
  · subst e
    by_cases hl : i < S.length
    · rw [List.getElem?_set_self hl] at h
      exact .inl ⟨rfl, h⟩
    · rw [List.getElem?_eq_none (by simpa using hl)] at h
      cases h
  · rw [List.getElem?_set_ne e] at h
    exact .inr ⟨e, h⟩
theorem SS.set_at {S : SS} {i : Nat} {m : Option M} (hl : i < S.length) : SS.at (S.set i m) i = m := by
  unfold SS.at
  rw [List.getElem?_set_self hl]
  rfl
theorem SS.set_ne {S : SS} {i j : Nat} {m : Option M} (h : i ≠ j) : SS.at (S.set i m) j = S.at j := by
  unfold SS.at
  rw [List.getElem?_set_ne h]
/-- freezing a slot -/
noncomputable def SS.frz (S : SS) (i : Nat) : SS := match S.at i with
  | some m => S.set i (some (.d m.toD))
  | none => S
theorem Rp.frzSlot {K : KG} {H F : Hp} {O : OW} {σ : St} {S : SS} {i : Nat} {m : M} (r : Rp K H F O σ S) (e : S.at i = some m) :
    Rp K H (frzF (.s i) H F O) (frzO (.s i) O) σ (S.set i (some (.d m.toD))) := by
  refine ⟨frz_bs r.bs, by rw [List.length_set]; exact r.len, fun j x h => ?_⟩
  rcases SS.at_set h with ⟨e1, e2⟩ | ⟨ne, h⟩
  · subst e1
    cases e2
    obtain ⟨v, hv, rm⟩ := r.sl i m e
    exact ⟨v, hv, frz_rep r.bs rm⟩
  · obtain ⟨v, hv, rm⟩ := r.sl j x h
    exact ⟨v, hv, frz_other r.bs rm fun z => ne (by cases z; rfl)⟩
/-- freezing a result -/
theorem Rp.frzR {K : KG} {H F : Hp} {O : OW} {σ : St} {S : SS} (r : Rp K H F O σ S) : Rp K H (frzF .r H F O) (frzO .r O) σ S :=
  ⟨frz_bs r.bs, r.len, fun j x h => by
    obtain ⟨v, hv, rm⟩ := r.sl j x h
    exact ⟨v, hv, frz_other r.bs rm fun z => by cases z⟩⟩

/-- a context's objects and classes -/
noncomputable def clsOf (mg : Str → Option Value) (c : Str) : Option Addr := match mg c with
  | some (.ref C) => some C
  | _ => none
noncomputable abbrev kg0 (K : PySem.W.Frag) (mg : Str → Option Value) : KG := ⟨K, clsOf mg, none⟩
/-- the exception that is handled in an except suite -/
noncomputable def xnOf (calm : Bool) (pn : List (Addr × Obj)) : Option (Addr × Value × Option Addr) := match calm, pn with
  | false, p :: _ => some (p.1, p.2.cls, p.2.dict)
  | _, _ => none
noncomputable abbrev kg (X : Cx) : KG := ⟨X.K, clsOf X.mg, xnOf X.calm X.pn⟩
theorem xnOf_calm {c : Bool} {pn : List (Addr × Obj)} (h : c = true) : xnOf c pn = none := by subst h; rfl
theorem kg_calm {X : Cx} (h : X.calm = true) : kg X = kg0 X.K X.mg := by unfold kg; rw [xnOf_calm h]
theorem kg_blk {X : Cx} (h : X.calm = true) (s : Shared) (H : Hp) (scope : Scope) (e : Env) (fp : List Addr) : kg (X.blk s H scope e fp) = kg X := by
  rw [kg_calm h, kg_calm (X := X.blk s H scope e fp) h]
theorem PE.imp {X : Cx} {e : Expr} {t t' : TE} (h : PE X e t) (hm : ∀ σ H Q, t' σ H Q → t σ H Q) : PE X e t' := ⟨fun pins s σ H Q I q => h.run pins s σ H Q I (hm σ H Q q)⟩
theorem PT.imp {X : Cx} {e : Expr} {t t' : TT} (h : PT X e t) (hm : ∀ σ H Q, t' σ H Q → t σ H Q) : PT X e t' := ⟨fun pins s σ H Q I q => h.run pins s σ H Q I (hm σ H Q q)⟩
theorem PW.imp {X : Cx} {e : Expr} {t t' : TT} (h : PW X e t) (hm : ∀ σ H Q, t' σ H Q → t σ H Q) : PW X e t' := ⟨fun wh pins s σ H Q I q => h.run wh pins s σ H Q I (hm σ H Q q)⟩
theorem PA.imp {X : Cx} {e : List Expr} {t t' : TA} (h : PA X e t) (hm : ∀ σ H Q, t' σ H Q → t σ H Q) : PA X e t' := ⟨fun pos pins s σ H Q I q => h.run pos pins s σ H Q I (hm σ H Q q)⟩
theorem PS.imp {X : Cx} {e : Stmt} {t t' : TS} (h : PS X e t) (hm : ∀ D σ H, t' D σ H → t D σ H) : PS X e t' := ⟨fun pins s σ H D I q => h.run pins s σ H D I (hm D σ H q)⟩
theorem PSs.imp {X : Cx} {e : List Stmt} {t t' : TS} (h : PSs X e t) (hm : ∀ D σ H, t' D σ H → t D σ H) : PSs X e t' := ⟨fun pins s σ H D I q => h.run pins s σ H D I (hm D σ H q)⟩

inductive RepOvs (K : KG) (F : Hp) (σ : St) : List V → List Ov → Prop
  | nil : RepOvs K F σ [] []
  | cons {v : V} {vs : List V} {o : Ov} {os : List Ov} : RepOv K F σ v o → RepOvs K F σ vs os → RepOvs K F σ (v :: vs) (o :: os)
theorem RepOvs.mono {K : KG} {F F' : Hp} {σ : St} (l : Le F F') : ∀ {v : List V} {d : List Ov}, RepOvs K F σ v d → RepOvs K F' σ v d
  | _, _, .nil => .nil
  | _, _, .cons h r => .cons (h.mono l) (RepOvs.mono l r)

noncomputable abbrev FE := SS → R Ov
noncomputable abbrev FM := SS → R M
noncomputable abbrev FB := SS → R Bool
noncomputable abbrev FA := SS → R (List Ov)
noncomputable def rdE (K : KG) (f : FE) : TE := fun σ H Q => ∃ F O S o S', Rp K H F O σ S ∧ f S = .ok o S' ∧
  ∀ v H' F' O', Stp H F O H' F' O' → Rp K H' F' O' σ S' → RepOv K F' σ v o → Q v H'
noncomputable def rdM (K : KG) (f : FM) : TE := fun σ H Q => ∃ F O S m S', Rp K H F O σ S ∧ f S = .ok m S' ∧
  ∀ v H' F' O', Stp H F O H' F' O' → Rp K H' F' O' σ S' → RepM K H' F' O' (.r, []) v m → Q v H'
noncomputable def rdT (K : KG) (f : FB) : TT := fun σ H Q => ∃ F O S b S', Rp K H F O σ S ∧ f S = .ok b S' ∧
  ∀ H' F' O', Stp H F O H' F' O' → Rp K H' F' O' σ S' → Q b H'
noncomputable def rdA (K : KG) (f : FA) : TA := fun σ H Q => ∃ F O S os S', Rp K H F O σ S ∧ f S = .ok os S' ∧
  ∀ vs H' F' O', Stp H F O H' F' O' → Rp K H' F' O' σ S' → RepOvs K F' σ vs os → Q vs H'
noncomputable abbrev DE (X : Cx) (f : FE) (e : Expr) : Prop := PE X e (rdE (kg X) f)
noncomputable abbrev DM (X : Cx) (f : FM) (e : Expr) : Prop := PE X e (rdM (kg X) f)
noncomputable abbrev DT (X : Cx) (f : FB) (e : Expr) : Prop := PT X e (rdT (kg X) f)
noncomputable abbrev DW (X : Cx) (f : FB) (e : Expr) : Prop := PW X e (rdT (kg X) f)
noncomputable abbrev DA (X : Cx) (f : FA) (es : List Expr) : Prop := PA X es (rdA (kg X) f)

theorem R.bind_ok {α β : Type} {r : R α} {g : α → SS → R β} {b : β} {S : SS} (h : r.bind g = .ok b S) : ∃ a S1, r = .ok a S1 ∧ g a S1 = .ok b S := by
  cases r with
  | ok a S1 => exact ⟨a, S1, rfl, h⟩
  | ex x S1 => cases h
  | no => cases h

/-! ### laying new things -/
section
variable {K : KG} {H F : Hp} {O : OW} {σ : St} {S : SS} {p : Addr} {o : HO}
theorem Bs.free (b : Bs H F O) (h : H p = none) : F p = none ∧ O p = none := by
  refine ⟨?_, ?_⟩
  · cases e : F p with
    | none => rfl
    | some x => rw [b.fh p x e] at h; cases h
  · cases e : O p with
    | none => rfl
    | some x =>
      obtain ⟨_, y, hy⟩ := b.fo p x e
      rw [hy] at h; cases h
theorem Le.upd2 (l : Le F H) : Le (upd F p o) (upd H p o) := fun a u h => by
  by_cases e : a = p
  · subst e; rw [upd_same] at h ⊢; exact h
  · rw [upd_ne e] at h ⊢; exact l a u h
theorem Le.upd1 (h : H p = none) : Le H (upd H p o) := fun a u e => by
  rw [upd_ne (ne_of_none e h)]; exact e
/-- a new frozen object -/
theorem al_upd : ∀ a u, H a = some u → ∃ u', upd H p o a = some u' := fun a u h => by
  by_cases e : a = p
  · subst e; exact ⟨o, upd_same⟩
  · exact ⟨u, by rw [upd_ne e]; exact h⟩
theorem Rp.layF (r : Rp K H F O σ S) (h : H p = none) : Stp H F O (upd H p o) (upd F p o) O ∧ Rp K (upd H p o) (upd F p o) O σ S := by
  obtain ⟨hF, hO⟩ := r.bs.free h
  refine ⟨⟨Le.upd1 hF, fun a u e _ => Le.upd1 h a u e, fun a q e => .inl ⟨q, e⟩, fun a u e => ?_, al_upd⟩, ⟨⟨r.bs.fh.upd2, fun a q e => ?_⟩, r.len, fun i m e => ?_⟩⟩
  · by_cases ea : a = p
    · subst ea; exact .inr (.inr h)
    · rw [upd_ne ea] at e; exact .inl e
  · obtain ⟨h1, u, h2⟩ := r.bs.fo a q e
    have ea : a ≠ p := fun z => by subst z; rw [h] at h2; cases h2
    rw [upd_ne ea, upd_ne ea]
    exact ⟨h1, u, h2⟩
  · obtain ⟨v, hv, rm⟩ := r.sl i m e
    exact ⟨v, hv, rm.stay (Le.upd1 hF) fun a u _ e1 e2 => ⟨Le.upd1 h a u e2, e1⟩⟩
noncomputable def ownR (O : OW) (p : Addr) (q : Pl) : OW := fun a => if a = p then some q else O a
/-- a new object of a place -/
theorem Rp.layO {q : Pl} (r : Rp K H F O σ S) (h : H p = none) : Stp H F O (upd H p o) F (ownR O p q) ∧ Rp K (upd H p o) F (ownR O p q) σ S := by
  obtain ⟨hF, hO⟩ := r.bs.free h
  refine ⟨⟨Le.refl _, fun a u e _ => Le.upd1 h a u e, fun a q e => ?_, fun a u e => .inl e, al_upd⟩, ⟨⟨r.bs.fh.trans (Le.upd1 h), fun a q' e => ?_⟩, r.len, fun i m e => ?_⟩⟩
  · unfold ownR at e
    split at e
    · rename_i z; subst z; exact .inr h
    · exact .inl ⟨q, e⟩
  · unfold ownR at e
    split at e
    · rename_i z; subst z; exact ⟨hF, o, upd_same⟩
    · rename_i ne
      obtain ⟨h1, u, h2⟩ := r.bs.fo a q' e
      exact ⟨h1, u, by rw [upd_ne ne]; exact h2⟩
  · obtain ⟨v, hv, rm⟩ := r.sl i m e
    refine ⟨v, hv, rm.stay (Le.refl _) fun a u _ e1 e2 => ⟨Le.upd1 h a u e2, ?_⟩⟩
    unfold ownR
    rw [if_neg (ne_of_none e2 h)]
    exact e1
end

/-- what is wanted of a result that is laid here, or is there -/
structure Wish (K : KG) (H F : Hp) (m : M) (Q : VK) : Prop where
  d : ∀ x v, m = .d x → RepD K F v x → Q v H
  t : ∀ zs p vs, m = .d (.tup zs) → H p = none → RepDs K F vs zs → Q (.ref p) (upd H p (.tup vs))
  l : ∀ zs p vs, m = .lst zs → H p = none → RepDs K F vs zs → Q (.ref p) (upd H p (.lst vs))
  k : ∀ (ks : List Key) ds p vs, m = .dk (ks.zip ds) → ks.length = vs.length → H p = none → RepDs K F vs ds → Q (.ref p) (upd H p (.dK (ks.zip vs)))
  o : ∀ p, m = .d .odk → H p = none → Q (.ref p) (upd H p (.ext (isDct p)))
section
variable {K : KG} {H F : Hp} {O : OW} {σ : St} {S : SS}
theorem Rp.wish {m : M} {Q : VK} (r : Rp K H F O σ S) (k : ∀ v H' F' O', Stp H F O H' F' O' → Rp K H' F' O' σ S → RepM K H' F' O' (.r, []) v m → Q v H') : Wish K H F m Q := by
  refine ⟨fun x v e h => ?_, fun zs p vs e h rv => ?_, fun zs p vs e h rv => ?_, fun ks ds p vs e el h rv => ?_, fun p e h => ?_⟩
  · subst e
    exact k v H F O (Stp.refl _ _ _) r h
  · subst e
    obtain ⟨h1, h2⟩ := r.layF (o := .tup vs) h
    exact k _ _ _ _ h1 h2 (.tup (.inl (.inl upd_same)) (rv.mono h1.ff))
  · subst e
    obtain ⟨h1, h2⟩ := r.layO (o := .lst vs) (q := (.r, [])) h
    exact k _ _ _ _ h1 h2 ⟨p, vs, rfl, if_pos rfl, upd_same, rv⟩
  · subst e
    obtain ⟨h1, h2⟩ := r.layO (o := .dK (ks.zip vs)) (q := (.r, [])) h
    exact k _ _ _ _ h1 h2 ⟨p, ks, vs, ds, rfl, if_pos rfl, upd_same, el, rv, rfl⟩
  · subst e
    obtain ⟨h1, h2⟩ := r.layF (o := .ext (isDct p)) h
    exact k _ _ _ _ h1 h2 (.odk upd_same)
end

section
variable {X : Cx} {e a b : Expr} {pos : Pos}
/-! ### names and constants -/
noncomputable def eN (i : Nat) : FE := fun S => match S.at i with
  | some _ => .ok (.j i) S
  | none => .no
noncomputable def eC (d : D) : FE := fun S => .ok (.d d) S
theorem de_n {i : Nat} (h : PE X e (tVar i)) : DE X (eN i) e := PE.imp h fun σ H Q ⟨F, O, S, o, S', r, hf, k⟩ => by
  unfold eN at hf
  cases em : S.at i with
  | none => rw [em] at hf; cases hf
  | some m =>
    rw [em] at hf
    cases hf
    obtain ⟨v, hv, rm⟩ := r.sl i m em
    exact ⟨v, hv, k v H F O (Stp.refl _ _ _) r hv⟩
theorem de_c {v : V} {d : D} (h : PE X e (tC v)) (hd : ∀ F, RepD (kg X) F v d) : DE X (eC d) e := PE.imp h fun σ H Q ⟨F, O, S, o, S', r, hf, k⟩ => by
  cases hf
  exact k v H F O (Stp.refl _ _ _) r (hd F)
theorem de_int {i : Int} {j : Nat} : DE X (eC (.int i)) (.Constant (.int i) j pos) := de_c pe_int fun _ => .int _
theorem de_bl {i : Bool} {j : Nat} : DE X (eC (.bl i)) (.Constant (.bool i) j pos) := de_c pe_bl fun _ => .bl _
theorem de_non {j : Nat} : DE X (eC .non) (.Constant .none j pos) := de_c pe_non fun _ => .non
theorem de_str {x : Str} {j : Nat} : DE X (eC (.str x)) (.Constant (.str x) j pos) := de_c pe_str fun _ => .str _

/-! ### from a value's reading to a result's, and back -/
noncomputable def eM (f : FM) : FE := fun S => (f S).bind fun m S => .ok (.d m.toD) S
theorem de_m {f : FM} (h : DM X f e) : DE X (eM f) e := PE.imp h fun σ H Q ⟨F, O, S, o, S', r, hf, k⟩ => by
  obtain ⟨m, S1, h1, h2⟩ := R.bind_ok hf
  cases h2
  exact ⟨F, O, S, m, S', r, h1, fun v H' F' O' st r' rm => k v H' _ _ (st.trans (frz_stp r'.bs)) r'.frzR (frz_rep r'.bs rm)⟩
noncomputable def force : Ov → SS → Option (D × SS)
  | .d x, S => some (x, S)
  | .j i, S => match S.at i with
    | some m => some (m.toD, S.set i (some (.d m.toD)))
    | none => none
theorem force_ok {K : KG} {H F : Hp} {O : OW} {σ : St} {S S' : SS} {v : V} {o : Ov} {d : D} (r : Rp K H F O σ S) (ro : RepOv K F σ v o) (h : force o S = some (d, S')) :
    ∃ F' O', Stp H F O H F' O' ∧ Rp K H F' O' σ S' ∧ RepD K F' v d := by
  cases o with
  | d x => cases h; exact ⟨F, O, Stp.refl _ _ _, r, ro⟩
  | j i =>
    have h' : (match S.at i with | some m => some (m.toD, S.set i (some (.d m.toD))) | none => none) = some (d, S') := h
    cases em : S.at i with
    | none => rw [em] at h'; cases h'
    | some m =>
      rw [em] at h'
      cases h'
      obtain ⟨w, hw, rm⟩ := r.sl i m em
      have z : σ[i]? = some (some v) := ro
      rw [hw] at z
      cases z
      exact ⟨_, _, frz_stp r.bs, r.frzSlot em, frz_rep r.bs rm⟩
noncomputable def mE (f : FE) : FM := fun S => (f S).bind fun o S => match force o S with
  | some (d, S') => .ok (.d d) S'
  | none => .no
theorem dm_e {f : FE} (h : DE X f e) : DM X (mE f) e := PE.imp h fun σ H Q ⟨F, O, S, o, S', r, hf, k⟩ => by
  obtain ⟨m, S1, h1, h2⟩ := R.bind_ok hf
  refine ⟨F, O, S, m, S1, r, h1, fun v H' F' O' st r' rm => ?_⟩
  cases ef : force m S1 with
  | none => rw [ef] at h2; cases h2
  | some z =>
    obtain ⟨d, S2⟩ := z
    rw [ef] at h2
    cases h2
    obtain ⟨F2, O2, st2, r2, rd⟩ := force_ok r' rm ef
    exact k v H' F2 O2 (st.trans st2) r2 rd

/-! ### operations on two values -/
noncomputable def OpD (X : Cx) (f : Value → Value → Sem Value) (g : D → D → Option M) : Prop :=
  ∃ r : R2, OpR X f r ∧ ∀ (H F : Hp) (v u : V) (x y : D) (m : M) (Q : VK), Le F H → View (kg X) H F v x → View (kg X) H F u y → g x y = some m → Wish (kg X) H F m Q → r v u H Q
noncomputable def onD (g : D → D → Option M) (a b : Ov) (S : SS) : R M := match a.get S, b.get S with
  | some x, some y => (match g x y with
    | some m => .ok m S
    | none => .no)
  | _, _ => .no
theorem onD_ok {g : D → D → Option M} {a b : Ov} {S S' : SS} {m : M} (h : onD g a b S = .ok m S') : S' = S ∧ ∃ x y, a.get S = some x ∧ b.get S = some y ∧ g x y = some m := by
  unfold onD at h
  cases ea : a.get S with
  | none => rw [ea] at h; cases h
  | some x =>
    cases eb : b.get S with
    | none => rw [ea, eb] at h; cases h
    | some y =>
      rw [ea, eb] at h
      dsimp only at h
      cases eg : g x y with
      | none => rw [eg] at h; cases h
      | some m' => rw [eg] at h; cases h; exact ⟨rfl, x, y, rfl, rfl, eg⟩
noncomputable def mBin (g : D → D → Option M) (fa fb : FE) : FM := fun S => (fa S).bind fun a S => (fb S).bind fun b S => onD g a b S
/-- both operands, then the operation's wish -/
theorem bin_rd {K : KG} {g : D → D → Option M} {fa fb : FE} {r : R2} (hr : ∀ (H F : Hp) (v u : V) (x y : D) (m : M) (Q : VK), Le F H → View K H F v x → View K H F u y → g x y = some m → Wish K H F m Q → r v u H Q)
    {σ : St} {H : Hp} {Q : VK} (h : rdM K (mBin g fa fb) σ H Q) : tOp r (rdE K fa) (rdE K fb) σ H Q := by
  obtain ⟨F, O, S, m, S', rp, hf, k⟩ := h
  obtain ⟨a, S1, h1, h2⟩ := R.bind_ok hf
  obtain ⟨b, S2, h3, h4⟩ := R.bind_ok h2
  obtain ⟨e4, x, y, ex, ey, eg⟩ := onD_ok h4
  subst e4
  refine ⟨F, O, S, a, S1, rp, h1, fun v H1 F1 O1 st1 r1 ra => ⟨F1, O1, S1, b, S', r1, h3, fun u H2 F2 O2 st2 r2 rb => ?_⟩⟩
  refine hr H2 F2 v u x y m Q r2.bs.fh (r2.view (ra.mono st2.ff) ex) (r2.view rb ey) eg (r2.wish fun w H3 F3 O3 st3 r3 rm => ?_)
  exact k w H3 F3 O3 ((st1.trans st2).trans st3) r3 rm
theorem dm_bin {op : Operator} {g : D → D → Option M} {fa fb : FE} (ho : OpD X (binaryOp op) g) (ha : DE X fa a) (hb : DE X fb b) : DM X (mBin g fa fb) (.BinOp a op b pos) := by
  obtain ⟨r, hr, hs⟩ := ho
  exact PE.imp (pe_op hr ha hb) fun σ H Q h => bin_rd hs h
theorem dm_cmp {op : CmpOp} {g : D → D → Option M} {fa fb : FE} (ho : OpD X (compareOp op) g) (ha : DE X fa a) (hb : DE X fb b) (hm : behindInMarks op b = false) : DM X (mBin g fa fb) (.Compare a [op] [b] pos) := by
  obtain ⟨r, hr, hs⟩ := ho
  exact PE.imp (pe_cmpR hr ha hb hm) fun σ H Q h => bin_rd hs h
/-- a result that is a truth -/
noncomputable def asB (m : M) (S : SS) : R Bool := match m with
  | .d (.bl b) => .ok b S
  | _ => .no
theorem asB_ok {m : M} {S S' : SS} {b : Bool} (h : asB m S = .ok b S') : m = .d (.bl b) ∧ S' = S := by
  unfold asB at h
  split at h
  · cases h; exact ⟨rfl, rfl⟩
  · cases h
noncomputable def tM (f : FM) : FB := fun S => (f S).bind asB
theorem dt_cmp {op : CmpOp} {g : D → D → Option M} {fa fb : FE} (ho : OpD X (compareOp op) g) (ha : DE X fa a) (hb : DE X fb b) (hm : behindInMarks op b = false) : DT X (tM (mBin g fa fb)) (.Compare a [op] [b] pos) := by
  obtain ⟨r, hr, hs⟩ := ho
  refine PT.imp (pt_cmpR hr ha hb hm) fun σ H Q h => ?_
  obtain ⟨F, O, S, c, S', rp, hf, k⟩ := h
  obtain ⟨m, S1, h1, h2⟩ := R.bind_ok hf
  obtain ⟨em, eS⟩ := asB_ok h2
  subst em eS
  refine bin_rd (g := g) hs ⟨F, O, S, _, S', rp, h1, fun v H' F' O' st r' rm => ⟨c, ?_, k H' F' O' st r'⟩⟩
  cases (show RepD (kg X) F' v (.bl c) from rm)
  rfl
/-- a value that is a truth, as a test -/
theorem dt_val {f : FM} (h : DM X f e) (he : ∀ whole, isTrue e X.env whole = (do let v ← whole; standAt e.pos; holding [v] (truthy v)) := by intro _; rfl) : DT X (tM f) e := by
  refine PT.imp (pt_val h he) fun σ H Q h => ?_
  obtain ⟨F, O, S, c, S', rp, hf, k⟩ := h
  obtain ⟨m, S1, h1, h2⟩ := R.bind_ok hf
  obtain ⟨em, eS⟩ := asB_ok h2
  subst em eS
  refine ⟨F, O, S, _, S', rp, h1, fun v H' F' O' st r' rm => ⟨c, ?_, k H' F' O' st r'⟩⟩
  cases (show RepD (kg X) F' v (.bl c) from rm)
  rfl
/-! ### and, or, not -/
noncomputable def tAnd' (f g : FB) : FB := fun S => (f S).bind fun c S => if c = true then g S else .ok false S
noncomputable def tOr' (f g : FB) : FB := fun S => (f S).bind fun c S => if c = true then .ok true S else g S
noncomputable def tNot' (f : FB) : FB := fun S => (f S).bind fun c S => .ok (!c) S
theorem dt_w {f : FB} (h : DW X f e) : DT X f e := PW.pt h
theorem dw_and1 {f : FB} (h : DT X f a) : DW X f (.BoolOp .And [a] pos) := pw_and1 h
theorem dw_or1 {f : FB} (h : DT X f a) : DW X f (.BoolOp .Or [a] pos) := pw_or1 h
theorem dw_and {f g : FB} {rest : List Expr} (ha : DT X f a) (hb : DW X g (.BoolOp .And (b :: rest) pos)) : DW X (tAnd' f g) (.BoolOp .And (a :: b :: rest) pos) := by
  refine PW.imp (pw_and ha hb) fun σ H Q h => ?_
  obtain ⟨F, O, S, c, S', rp, hf, k⟩ := h
  obtain ⟨d, S1, h1, h2⟩ := R.bind_ok hf
  refine ⟨F, O, S, d, S1, rp, h1, fun H' F' O' st r' => ?_⟩
  cases d with
  | true =>
    rw [if_pos rfl]
    rw [if_pos rfl] at h2
    exact ⟨F', O', S1, c, S', r', h2, fun H2 F2 O2 st2 r2 => k H2 F2 O2 (st.trans st2) r2⟩
  | false =>
    cases h2
    exact k H' F' O' st r'
theorem dw_or {f g : FB} {rest : List Expr} (ha : DT X f a) (hb : DW X g (.BoolOp .Or (b :: rest) pos)) : DW X (tOr' f g) (.BoolOp .Or (a :: b :: rest) pos) := by
  refine PW.imp (pw_or ha hb) fun σ H Q h => ?_
  obtain ⟨F, O, S, c, S', rp, hf, k⟩ := h
  obtain ⟨d, S1, h1, h2⟩ := R.bind_ok hf
  refine ⟨F, O, S, d, S1, rp, h1, fun H' F' O' st r' => ?_⟩
  cases d with
  | false =>
    show (if false = true then _ else _)
    rw [if_neg (by decide)]
    exact ⟨F', O', S1, c, S', r', h2, fun H2 F2 O2 st2 r2 => k H2 F2 O2 (st.trans st2) r2⟩
  | true =>
    cases h2
    exact k H' F' O' st r'
theorem dt_not {f : FB} (h : DT X f a) : DT X (tNot' f) (.UnaryOp .Not a pos) := by
  refine PT.imp (pt_not h) fun σ H Q h => ?_
  obtain ⟨F, O, S, c, S', rp, hf, k⟩ := h
  obtain ⟨d, S1, h1, h2⟩ := R.bind_ok hf
  cases h2
  exact ⟨F, O, S, d, S', rp, h1, k⟩
/-- .. as values -/
noncomputable def vAnd (f g : FM) : FM := fun S => (f S).bind fun m S => (asB m S).bind fun c S => if c = true then g S else .ok (.d (.bl false)) S
noncomputable def vOr (f g : FM) : FM := fun S => (f S).bind fun m S => (asB m S).bind fun c S => if c = true then .ok (.d (.bl true)) S else g S
noncomputable def vNot (f : FM) : FM := fun S => (f S).bind fun m S => (asB m S).bind fun c S => .ok (.d (.bl (!c))) S
theorem dm_one {op : BoolOp} {f : FM} (h : DM X f a) : DM X f (.BoolOp op [a] pos) := pe_one h
theorem dm_and {f g : FM} {rest : List Expr} (ha : DM X f a) (hb : DM X g (.BoolOp .And (b :: rest) pos)) : DM X (vAnd f g) (.BoolOp .And (a :: b :: rest) pos) := by
  refine PE.imp (pe_and ha hb) fun σ H Q h => ?_
  obtain ⟨F, O, S, m, S', rp, hf, k⟩ := h
  obtain ⟨n, S1, h1, h2⟩ := R.bind_ok hf
  obtain ⟨c, S2, h3, h4⟩ := R.bind_ok h2
  obtain ⟨en, eS⟩ := asB_ok h3
  subst en eS
  refine ⟨F, O, S, _, S2, rp, h1, fun v H' F' O' st r' rm => ⟨c, by cases (show RepD (kg X) F' v (.bl c) from rm); rfl, ?_⟩⟩
  cases c with
  | true =>
    rw [if_pos rfl]
    rw [if_pos rfl] at h4
    exact ⟨F', O', S2, m, S', r', h4, fun u H2 F2 O2 st2 r2 rm2 => k u H2 F2 O2 (st.trans st2) r2 rm2⟩
  | false =>
    cases h4
    exact k _ H' F' O' st r' (.bl false)
theorem dm_or {f g : FM} {rest : List Expr} (ha : DM X f a) (hb : DM X g (.BoolOp .Or (b :: rest) pos)) : DM X (vOr f g) (.BoolOp .Or (a :: b :: rest) pos) := by
  refine PE.imp (pe_or ha hb) fun σ H Q h => ?_
  obtain ⟨F, O, S, m, S', rp, hf, k⟩ := h
  obtain ⟨n, S1, h1, h2⟩ := R.bind_ok hf
  obtain ⟨c, S2, h3, h4⟩ := R.bind_ok h2
  obtain ⟨en, eS⟩ := asB_ok h3
  subst en eS
  refine ⟨F, O, S, _, S2, rp, h1, fun v H' F' O' st r' rm => ⟨c, by cases (show RepD (kg X) F' v (.bl c) from rm); rfl, ?_⟩⟩
  cases c with
  | false =>
    show (if false = true then _ else _)
    rw [if_neg (by decide)]
    exact ⟨F', O', S2, m, S', r', h4, fun u H2 F2 O2 st2 r2 rm2 => k u H2 F2 O2 (st.trans st2) r2 rm2⟩
  | true =>
    cases h4
    exact k _ H' F' O' st r' (.bl true)
theorem dm_not {f : FM} (h : DM X f a) : DM X (vNot f) (.UnaryOp .Not a pos) := by
  refine PE.imp (pe_not h) fun σ H Q h => ?_
  obtain ⟨F, O, S, m, S', rp, hf, k⟩ := h
  obtain ⟨n, S1, h1, h2⟩ := R.bind_ok hf
  obtain ⟨c, S2, h3, h4⟩ := R.bind_ok h2
  obtain ⟨en, eS⟩ := asB_ok h3
  subst en eS
  cases h4
  refine ⟨F, O, S, M.d (.bl c), _, rp, h1, fun v H' F' O' st r' rm => ⟨c, by cases (show RepD (kg X) F' v (.bl c) from rm); rfl, k _ H' F' O' st r' (.bl _)⟩⟩
/-! ### argument lists, displays -/
noncomputable def aNil : FA := fun S => .ok [] S
noncomputable def aCons (f : FE) (g : FA) : FA := fun S => (f S).bind fun o S => (g S).bind fun os S => .ok (o :: os) S
theorem da_nil : DA X aNil [] := PA.imp pa_nil fun σ H Q ⟨F, O, S, os, S', r, hf, k⟩ => by
  cases hf
  exact k [] H F O (Stp.refl _ _ _) r .nil
theorem da_cons {f : FE} {g : FA} {es : List Expr} (ha : DE X f e) (hr : DA X g es) (hs : starEach (e :: es) X.env = (false, eval e X.env) :: starEach es X.env := by rfl) : DA X (aCons f g) (e :: es) := by
  refine PA.imp (pa_cons ha hr hs) fun σ H Q ⟨F, O, S, os, S', r, hf, k⟩ => ?_
  obtain ⟨o, S1, h1, h2⟩ := R.bind_ok hf
  obtain ⟨or, S2, h3, h4⟩ := R.bind_ok h2
  cases h4
  exact ⟨F, O, S, o, S1, r, h1, fun v H1 F1 O1 st1 r1 ro => ⟨F1, O1, S1, or, S', r1, h3, fun vs H2 F2 O2 st2 r2 rs => k (v :: vs) H2 F2 O2 (st1.trans st2) r2 (.cons (ro.mono st2.ff) rs)⟩⟩
noncomputable def forceAll : List Ov → SS → Option (List D × SS)
  | [], S => some ([], S)
  | o :: os, S => match force o S with
    | some (d, S1) => (match forceAll os S1 with
      | some (ds, S2) => some (d :: ds, S2)
      | none => none)
    | none => none
theorem forceAll_ok {K : KG} {H : Hp} {σ : St} : ∀ {vs : List V} {os : List Ov} {F : Hp} {O : OW} {S S' : SS} {ds : List D}, Rp K H F O σ S → RepOvs K F σ vs os → forceAll os S = some (ds, S') →
    ∃ F' O', Stp H F O H F' O' ∧ Rp K H F' O' σ S' ∧ RepDs K F' vs ds
  | [], _, F, O, S, S', ds, r, .nil, h => by cases h; exact ⟨F, O, Stp.refl _ _ _, r, .nil⟩
  | v :: vs, o :: os, F, O, S, S', ds, r, .cons ro rs, h => by
    have h' : (match force o S with | some (d, S1) => (match forceAll os S1 with | some (ds, S2) => some (d :: ds, S2) | none => none) | none => none) = some (ds, S') := h
    cases e1 : force o S with
    | none => rw [e1] at h'; cases h'
    | some z =>
      obtain ⟨d, S1⟩ := z
      rw [e1] at h'
      dsimp only at h'
      cases e2 : forceAll os S1 with
      | none => rw [e2] at h'; cases h'
      | some z2 =>
        obtain ⟨dr, S2⟩ := z2
        rw [e2] at h'
        cases h'
        obtain ⟨F1, O1, st1, r1, rd⟩ := force_ok r ro e1
        obtain ⟨F2, O2, st2, r2, rds⟩ := forceAll_ok r1 (rs.mono st1.ff) e2
        exact ⟨F2, O2, st1.trans st2, r2, .cons (rd.mono st2.ff) rds⟩
noncomputable def line : Nat := 16777216
theorem line_eq : line = sizeLine := sizeLine_eq.symm
noncomputable def dispF (mk : List D → M) (os : List Ov) (S : SS) : R M := match forceAll os S with
  | some (ds, S') => if ds.length ≤ line then .ok (mk ds) S' else .no
  | none => .no
noncomputable def mTup (f : FA) : FM := fun S => (f S).bind (dispF fun ds => .d (.tup ds))
noncomputable def mLst (f : FA) : FM := fun S => (f S).bind (dispF fun ds => .lst ds)
theorem disp_ok {mk : List D → M} {os : List Ov} {S S' : SS} {m : M} (h : dispF mk os S = .ok m S') : ∃ ds, forceAll os S = some (ds, S') ∧ ds.length ≤ sizeLine ∧ m = mk ds := by
  unfold dispF at h
  cases e : forceAll os S with
  | none => rw [e] at h; cases h
  | some z =>
    obtain ⟨ds, S1⟩ := z
    rw [e] at h
    dsimp only at h
    split at h
    · rename_i hl
      cases h
      exact ⟨ds, rfl, by rw [← line_eq]; exact hl, rfl⟩
    · cases h
theorem dm_tup {f : FA} {es : List Expr} {k : Nat} (h : DA X f es) : DM X (mTup f) (.Tuple es k pos) := by
  refine PE.imp (pe_tup h) fun σ H Q ⟨F, O, S, m, S', r, hf, k⟩ => ?_
  obtain ⟨os, S1, h1, h2⟩ := R.bind_ok hf
  obtain ⟨ds, e, hl, em⟩ := disp_ok h2
  refine ⟨F, O, S, os, S1, r, h1, fun vs H1 F1 O1 st1 r1 rs => ?_⟩
  obtain ⟨F2, O2, st2, r2, rd⟩ := forceAll_ok r1 rs e
  exact ⟨by rw [rd.len]; exact hl, fun p hp => (r2.wish fun v H3 F3 O3 st3 r3 rm => k v H3 F3 O3 ((st1.trans st2).trans st3) r3 rm).t ds p vs em hp rd⟩
theorem dm_lst {f : FA} {es : List Expr} (h : DA X f es) : DM X (mLst f) (.List es pos) := by
  refine PE.imp (pe_lst h) fun σ H Q ⟨F, O, S, m, S', r, hf, k⟩ => ?_
  obtain ⟨os, S1, h1, h2⟩ := R.bind_ok hf
  obtain ⟨ds, e, hl, em⟩ := disp_ok h2
  refine ⟨F, O, S, os, S1, r, h1, fun vs H1 F1 O1 st1 r1 rs => ?_⟩
  obtain ⟨F2, O2, st2, r2, rd⟩ := forceAll_ok r1 rs e
  exact ⟨by rw [rd.len]; exact hl, fun p hp => (r2.wish fun v H3 F3 O3 st3 r3 rm => k v H3 F3 O3 ((st1.trans st2).trans st3) r3 rm).l ds p vs em hp rd⟩
end

inductive Fl where
  | nx | rt (m : M) | bk | ct
noncomputable abbrev FS := SS → R Fl
noncomputable def Kp (kp : Nat → Bool) (σ σ' : St) : Prop := σ'.length = σ.length ∧ ∀ i, kp i = true → σ'[i]? = σ[i]?
theorem Kp.refl (kp : Nat → Bool) (σ : St) : Kp kp σ σ := ⟨rfl, fun _ _ => rfl⟩
theorem Kp.trans {kp : Nat → Bool} {σ σ1 σ2 : St} (a : Kp kp σ σ1) (b : Kp kp σ1 σ2) : Kp kp σ σ2 := ⟨b.1.trans a.1, fun i h => (b.2 i h).trans (a.2 i h)⟩
theorem Kp.set {kp : Nat → Bool} {σ : St} {i : Nat} {v : Option V} (h : kp i = false) : Kp kp σ (σ.set i v) := ⟨List.length_set, fun j hj => by
  rw [List.getElem?_set_ne]
  intro e
  subst e
  rw [h] at hj
  cases hj⟩
noncomputable def rdF (K : KG) (kp : Nat → Bool) (D : Ends) (σ : St) (H F : Hp) (O : OW) (S' : SS) : Fl → Prop
  | .nx => ∀ σ' H' F' O', Stp H F O H' F' O' → Rp K H' F' O' σ' S' → Kp kp σ σ' → D.nx σ' H'
  | .rt m => ∀ v σ' H' F' O', Stp H F O H' F' O' → Rp K H' F' O' σ' S' → Kp kp σ σ' → RepM K H' F' O' (.r, []) v m → D.rt v H'
  | .bk => ∀ σ' H' F' O', Stp H F O H' F' O' → Rp K H' F' O' σ' S' → Kp kp σ σ' → D.bk σ' H'
  | .ct => ∀ σ' H' F' O', Stp H F O H' F' O' → Rp K H' F' O' σ' S' → Kp kp σ σ' → D.ct σ' H'
theorem rdF.from {K : KG} {kp : Nat → Bool} {D : Ends} {σ σ1 : St} {H F H1 F1 : Hp} {O O1 : OW} {S' : SS} {fl : Fl} (h : rdF K kp D σ H F O S' fl) (st : Stp H F O H1 F1 O1) (k : Kp kp σ σ1) : rdF K kp D σ1 H1 F1 O1 S' fl := by
  cases fl with
  | nx => exact fun σ' H' F' O' st' r kk => h σ' H' F' O' (st.trans st') r (k.trans kk)
  | rt m => exact fun v σ' H' F' O' st' r kk => h v σ' H' F' O' (st.trans st') r (k.trans kk)
  | bk => exact fun σ' H' F' O' st' r kk => h σ' H' F' O' (st.trans st') r (k.trans kk)
  | ct => exact fun σ' H' F' O' st' r kk => h σ' H' F' O' (st.trans st') r (k.trans kk)
noncomputable def rdS (K : KG) (kp : Nat → Bool) (f : FS) : TS := fun D σ H => ∃ F O S fl S', Rp K H F O σ S ∧ f S = .ok fl S' ∧ rdF K kp D σ H F O S' fl
noncomputable abbrev DS (X : Cx) (kp : Nat → Bool) (f : FS) (st : Stmt) : Prop := PS X st (rdS (kg X) kp f)
noncomputable abbrev DSs (X : Cx) (kp : Nat → Bool) (f : FS) (sts : List Stmt) : Prop := PSs X sts (rdS (kg X) kp f)

section
variable {X : Cx} {kp : Nat → Bool} {e a b : Expr} {pos : Pos} {st : Stmt} {rest : List Stmt} {f g : FS}
/-! ### blocks -/
noncomputable def sNil : FS := fun S => .ok .nx S
noncomputable def sSeq (f g : FS) : FS := fun S => (f S).bind fun fl S => match fl with
  | .nx => g S
  | .rt m => .ok (.rt m) S
  | .bk => .ok .bk S
  | .ct => .ok .ct S
theorem dss_nil : DSs X kp sNil [] := PSs.imp pss_nil fun D σ H ⟨F, O, S, fl, S', r, hf, k⟩ => by
  cases hf
  exact k σ H F O (Stp.refl _ _ _) r (Kp.refl _ _)
theorem seq_rd {K : KG} {D : Ends} {σ : St} {H : Hp} (h : rdS K kp (sSeq f g) D σ H) : tSeq (rdS K kp f) (rdS K kp g) D σ H := by
  obtain ⟨F, O, S, fl, S', r, hf, k⟩ := h
  obtain ⟨f1, S1, h1, h2⟩ := R.bind_ok hf
  refine ⟨F, O, S, f1, S1, r, h1, ?_⟩
  cases f1 with
  | nx => exact fun σ1 H1 F1 O1 st1 r1 kk => ⟨F1, O1, S1, fl, S', r1, h2, k.from st1 kk⟩
  | rt m => cases h2; exact k
  | bk => cases h2; exact k
  | ct => cases h2; exact k
theorem dss_cons (h1 : DS X kp f st) (h2 : DSs X kp g rest) : DSs X kp (sSeq f g) (st :: rest) := PSs.imp (pss_cons h1 h2) fun D σ H h => seq_rd h
theorem dss_one (h1 : DS X kp f st) : DSs X kp f [st] := pss_one h1
/-- what is not reached, or not served -/
noncomputable def sNo : FS := fun _ => .no
theorem ds_no : DS X kp sNo st := ⟨fun _ _ _ _ _ _ ⟨_, _, _, _, _, _, h, _⟩ => by cases h⟩
noncomputable def sExpr (f : FM) : FS := fun S => (f S).bind fun _ S => .ok .nx S
theorem ds_expr {f : FM} (h : DM X f e) (hs : swapsWith e none pos.line X.env = pure false := by rfl) : DS X kp (sExpr f) (.Expr e pos) := PS.imp (ps_expr h hs) fun D σ H ⟨F, O, S, fl, S', r, hf, k⟩ => by
  obtain ⟨m, S1, h1, h2⟩ := R.bind_ok hf
  cases h2
  exact ⟨F, O, S, m, S', r, h1, fun v H1 F1 O1 st1 r1 _ => k σ H1 F1 O1 st1 r1 (Kp.refl _ _)⟩
noncomputable def sRet (f : FM) : FS := fun S => (f S).bind fun m S => .ok (.rt m) S
theorem ds_ret {f : FM} (h : DM X f e) : DS X kp (sRet f) (.Return (some e) pos) := PS.imp (ps_ret h) fun D σ H ⟨F, O, S, fl, S', r, hf, k⟩ => by
  obtain ⟨m, S1, h1, h2⟩ := R.bind_ok hf
  cases h2
  exact ⟨F, O, S, m, S', r, h1, fun v H1 F1 O1 st1 r1 rm => k v σ H1 F1 O1 st1 r1 (Kp.refl _ _) rm⟩
noncomputable def sIf (t : FB) (f g : FS) : FS := fun S => (t S).bind fun c S => if c = true then f S else g S
theorem ds_if {c : Expr} {t : FB} {sa sb : List Stmt} (hc : DT X t c) (ha : DSs X kp f sa) (hb : DSs X kp g sb) : DS X kp (sIf t f g) (.If c sa sb pos) := PS.imp (ps_if hc ha hb) fun D σ H ⟨F, O, S, fl, S', r, hf, k⟩ => by
  obtain ⟨d, S1, h1, h2⟩ := R.bind_ok hf
  refine ⟨F, O, S, d, S1, r, h1, fun H1 F1 O1 st1 r1 => ?_⟩
  cases d with
  | true =>
    rw [if_pos rfl]
    rw [if_pos rfl] at h2
    exact ⟨F1, O1, S1, fl, S', r1, h2, k.from st1 (Kp.refl _ _)⟩
  | false =>
    show (if false = true then _ else _)
    rw [if_neg (by decide)]
    exact ⟨F1, O1, S1, fl, S', r1, h2, k.from st1 (Kp.refl _ _)⟩

/-! ### a root takes another's things -/
noncomputable def mvO (q q' : Rt) (O : OW) : OW := fun a => match O a with
  | some (z, p) => if z = q then some (q', p) else if z = q' then none else some (z, p)
  | none => none
section
variable {K : KG} {H F : Hp} {O : OW} {q q' : Rt} {σ : St} {S : SS}
theorem mvO_some {a : Addr} {z : Pl} (h : mvO q q' O a = some z) : ∃ z', O a = some z' := by
  unfold mvO at h
  cases e : O a with
  | none => rw [e] at h; cases h
  | some z' => exact ⟨z', rfl⟩
theorem mv_bs (b : Bs H F O) : Bs H F (mvO q q' O) := ⟨b.fh, fun a z h => by
  obtain ⟨z', e⟩ := mvO_some h
  exact b.fo a z' e⟩
theorem mv_stp : Stp H F O H F (mvO q q' O) := ⟨Le.refl _, fun _ _ h _ => h, fun a z h => .inl (mvO_some h), fun a o h => .inl h, fun _ o h => ⟨o, h⟩⟩
theorem mv_rep {p : List Nat} {v : V} {m : M} (h : RepM K H F O (q, p) v m) : RepM K H F (mvO q q' O) (q', p) v m :=
  RepM.move (Le.refl _) (fun a o _ e1 e2 => ⟨e2, by unfold mvO; rw [e1]; dsimp only; rw [if_pos rfl]⟩) h
theorem mv_other {z : Rt} {p : List Nat} {v : V} {m : M} (h : RepM K H F O (z, p) v m) (n1 : z ≠ q) (n2 : z ≠ q') : RepM K H F (mvO q q' O) (z, p) v m :=
  h.stay (Le.refl _) fun a o _ e1 e2 => ⟨e2, by unfold mvO; rw [e1]; dsimp only; rw [if_neg n1, if_neg n2]⟩
/-- the result is put into a slot -/
theorem Rp.put {i : Nat} {v : V} {m : M} (r : Rp K H F O σ S) (rm : RepM K H F O (.r, []) v m) : Rp K H F (mvO .r (.s i) O) (σ.set i (some v)) (S.set i (some m)) := by
  refine ⟨mv_bs r.bs, by rw [List.length_set, List.length_set]; exact r.len, fun j x h => ?_⟩
  rcases SS.at_set h with ⟨e1, e2⟩ | ⟨ne, h⟩
  · subst e1
    cases e2
    have hl : i < σ.length := by
      rw [← r.len]
      unfold SS.at at h
      by_cases z : i < S.length
      · exact z
      · rw [List.getElem?_eq_none (by simpa using z)] at h; cases h
    exact ⟨v, by rw [List.getElem?_set_self hl], mv_rep rm⟩
  · obtain ⟨w, hw, rw'⟩ := r.sl j x h
    exact ⟨w, by rw [List.getElem?_set_ne ne]; exact hw, mv_other rw' (fun z => by cases z) (fun z => ne (by cases z; rfl))⟩
/-- a slot is forgotten -/
theorem Rp.drop {i : Nat} (r : Rp K H F O σ S) : Rp K H F O σ (S.set i none) := by
  refine ⟨r.bs, by rw [List.length_set]; exact r.len, fun j x h => ?_⟩
  rcases SS.at_set h with ⟨e1, e2⟩ | ⟨ne, h⟩
  · cases e2
  · exact r.sl j x h
/-- a slot gives its thing as a result -/
theorem Rp.give {i : Nat} {m : M} (r : Rp K H F O σ S) (e : S.at i = some m) : ∃ v, σ[i]? = some (some v) ∧ Rp K H F (mvO (.s i) .r O) σ (S.set i none) ∧ RepM K H F (mvO (.s i) .r O) (.r, []) v m := by
  obtain ⟨v, hv, rm⟩ := r.sl i m e
  refine ⟨v, hv, ⟨mv_bs r.bs, by rw [List.length_set]; exact r.len, fun j x h => ?_⟩, mv_rep rm⟩
  rcases SS.at_set h with ⟨e1, e2⟩ | ⟨ne, h⟩
  · cases e2
  · obtain ⟨w, hw, rw'⟩ := r.sl j x h
    exact ⟨w, hw, mv_other rw' (fun z => ne (by cases z; rfl)) (fun z => by cases z)⟩
end
/-! ### a name is stored -/
noncomputable def sSet (i : Nat) (f : FM) : FS := fun S => (f S).bind fun m S => .ok .nx (S.set i (some m))
theorem set_rd {K : KG} {i : Nat} {f : FM} {te : TE} (hk : kp i = false) (ht : ∀ σ H Q, rdM K f σ H Q → te σ H Q) {D : Ends} {σ : St} {H : Hp} (h : rdS K kp (sSet i f) D σ H) : tAsg te (gName i) D σ H := by
  obtain ⟨F, O, S, fl, S', r, hf, k⟩ := h
  obtain ⟨m, S1, h1, h2⟩ := R.bind_ok hf
  cases h2
  exact ht _ _ _ ⟨F, O, S, m, S1, r, h1, fun v H1 F1 O1 st1 r1 rm => k _ H1 F1 _ (st1.trans mv_stp) (r1.put rm) (Kp.set hk)⟩
theorem ds_set {i : Nat} {x : Str} {f : FM} {pos' : Pos} (hN : X.N.Nodup) (hi : X.N[i]? = some x) (hx : Loc X.env.scope x) (hk : kp i = false) (h : DM X f e)
    (hs : swapsWith e (some (.Name x pos')) pos.line X.env = pure false := by rfl) (hf : X.fn x = true ∨ X.env.scope.names.lookup x = some .local := by first | exact .inl rfl | exact .inr rfl | assumption) :
    DS X kp (sSet i f) (.Assign [.Name x pos'] e pos) := PS.imp (ps_set hN hi hx h hs hf) fun D σ H h => set_rd hk (fun _ _ _ q => q) h
/-- return of a name: its thing goes along -/
noncomputable def sRetV (i : Nat) : FS := fun S => match S.at i with
  | some m => .ok (.rt m) (S.set i none)
  | none => .no
theorem ds_retV {i : Nat} (h : PE X e (tVar i)) : DS X kp (sRetV i) (.Return (some e) pos) := PS.imp (ps_ret h) fun D σ H ⟨F, O, S, fl, S', r, hf, k⟩ => by
  unfold sRetV at hf
  cases em : S.at i with
  | none => rw [em] at hf; cases hf
  | some m =>
    rw [em] at hf
    cases hf
    obtain ⟨v, hv, r1, rm⟩ := r.give em
    exact ⟨v, hv, k v σ H F _ mv_stp r1 (Kp.refl _ _) rm⟩

/-! ### targets -/
noncomputable abbrev FG := D → SS → Option SS
noncomputable abbrev FGs := List D → SS → Option SS
noncomputable def rdG (K : KG) (kp : Nat → Bool) (g : FG) : TG := fun v σ H Q => ∃ F O S d S', Rp K H F O σ S ∧ RepD K F v d ∧ g d S = some S' ∧
  ∀ σ' F' O', Stp H F O H F' O' → Rp K H F' O' σ' S' → Kp kp σ σ' → Q σ' H
noncomputable def rdGs (K : KG) (kp : Nat → Bool) (g : FGs) : TGs := fun vs σ H Q => ∃ F O S ds S', Rp K H F O σ S ∧ RepDs K F vs ds ∧ g ds S = some S' ∧
  ∀ σ' F' O', Stp H F O H F' O' → Rp K H F' O' σ' S' → Kp kp σ σ' → Q σ' H
theorem PG.imp {X : Cx} {e : Expr} {t t' : TG} (h : PG X e t) (hm : ∀ v σ H Q, t' v σ H Q → t v σ H Q) : PG X e t' := ⟨fun pins s σ H v u Q I r q => h.run pins s σ H v u Q I r (hm v σ H Q q)⟩
theorem PGs.imp {X : Cx} {e : List Expr} {t t' : TGs} (h : PGs X e t) (hm : ∀ v σ H Q, t' v σ H Q → t v σ H Q) : PGs X e t' := ⟨fun pins s σ H v u Q I r q => h.run pins s σ H v u Q I r (hm v σ H Q q)⟩
noncomputable abbrev DG (X : Cx) (kp : Nat → Bool) (g : FG) (e : Expr) : Prop := PG X e (rdG (kg X) kp g)
noncomputable abbrev DGs (X : Cx) (kp : Nat → Bool) (g : FGs) (e : List Expr) : Prop := PGs X e (rdGs (kg X) kp g)
noncomputable def gN (i : Nat) : FG := fun d S => some (S.set i (some (.d d)))
theorem Rp.putD {K : KG} {H F : Hp} {O : OW} {σ : St} {S : SS} {i : Nat} {v : V} {d : D} (r : Rp K H F O σ S) (rd : RepD K F v d) : Rp K H F O (σ.set i (some v)) (S.set i (some (.d d))) := by
  refine ⟨r.bs, by rw [List.length_set, List.length_set]; exact r.len, fun j x h => ?_⟩
  rcases SS.at_set h with ⟨e1, e2⟩ | ⟨ne, h⟩
  · subst e1
    cases e2
    have hl : i < σ.length := by
      rw [← r.len]
      unfold SS.at at h
      by_cases z : i < S.length
      · exact z
      · rw [List.getElem?_eq_none (by simpa using z)] at h; cases h
    exact ⟨v, by rw [List.getElem?_set_self hl], rd⟩
  · obtain ⟨w, hw, rw'⟩ := r.sl j x h
    exact ⟨w, by rw [List.getElem?_set_ne ne]; exact hw, rw'⟩
theorem dg_n {i : Nat} (hk : kp i = false) (h : PG X e (gName i)) : DG X kp (gN i) e := PG.imp h fun v σ H Q ⟨F, O, S, d, S', r, rd, hg, k⟩ => by
  cases hg
  exact k _ F O (Stp.refl _ _ _) (r.putD rd) (Kp.set hk)
noncomputable def gsNil : FGs := fun ds S => match ds with
  | [] => some S
  | _ => none
noncomputable def gsCons (g : FG) (gs : FGs) : FGs := fun ds S => match ds with
  | [] => none
  | d :: ds => match g d S with
    | some S1 => gs ds S1
    | none => none
theorem dgs_nil : DGs X kp gsNil [] := PGs.imp pgs_nil fun vs σ H Q ⟨F, O, S, ds, S', r, rd, hg, k⟩ => by
  cases rd with
  | nil => cases hg; exact ⟨rfl, k σ F O (Stp.refl _ _ _) r (Kp.refl _ _)⟩
  | cons _ _ => cases hg
theorem dgs_cons {es : List Expr} {g : FG} {gs : FGs} (h1 : DG X kp g e) (h2 : DGs X kp gs es) (hs : (assignEach (e :: es) X.env).map (·.2) = assign e X.env :: (assignEach es X.env).map (·.2) := by rfl) : DGs X kp (gsCons g gs) (e :: es) :=
  PGs.imp (pgs_cons h1 h2 hs) fun vs σ H Q ⟨F, O, S, ds, S', r, rd, hg, k⟩ => by
    cases rd with
    | nil => cases hg
    | @cons v vs d ds rd rds =>
      have hg : (match g d S with | some S1 => gs ds S1 | none => none) = some S' := hg
      cases e1 : g d S with
      | none => rw [e1] at hg; cases hg
      | some S1 =>
        rw [e1] at hg
        exact ⟨v, vs, rfl, F, O, S, d, S1, r, rd, e1, fun σ1 F1 O1 st1 r1 k1 => ⟨F1, O1, S1, ds, S', r1, rds.mono st1.ff, hg, fun σ2 F2 O2 st2 r2 k2 => k σ2 F2 O2 (st1.trans st2) r2 (k1.trans k2)⟩⟩
noncomputable def gT (n : Nat) (gs : FGs) : FG := fun d S => match d with
  | .tup ds => if ds.length = n then gs ds S else none
  | _ => none
theorem dg_t {es : List Expr} {k n : Nat} {gs : FGs} (hc : X.calm = true) (h : DGs X kp gs es) (hn : (assignEach es X.env).length = n := by rfl) (hst : (assignEach es X.env).findIdx? (·.1) = none := by rfl) : DG X kp (gT n gs) (.Tuple es k pos) :=
  PG.imp (pg_tup hc h hn hst) fun v σ H Q ⟨F, O, S, d, S', r, rd, hg, k⟩ => by
    cases d with
    | tup ds =>
      have hg : (if ds.length = n then gs ds S else none) = some S' := hg
      cases rd with
      | @tup a vs _ ht rds =>
        by_cases hl : ds.length = n
        · rw [if_pos hl] at hg
          exact ⟨a, vs, rfl, r.bs.fh.st ht, by rw [rds.len]; exact hl, F, O, S, ds, S', r, rds, hg, k⟩
        · rw [if_neg hl] at hg; cases hg
    | _ => cases hg
/-- target = value -/
noncomputable def sAsg (f : FE) (g : FG) : FS := fun S => (f S).bind fun o S => match force o S with
  | some (d, S1) => (match g d S1 with
    | some S2 => .ok .nx S2
    | none => .no)
  | none => .no
theorem ds_asg {tg : Expr} {f : FE} {g : FG} (he : DE X f e) (hg : DG X kp g tg) (hs : swapsWithSole [tg] e pos.line X.env = pure false := by rfl) (hw : swappedStores [tg] e X.env = pure none := by rfl)
    (h1 : (assignEach [tg] X.env).map (·.2) = [assign tg X.env] := by rfl) : DS X kp (sAsg f g) (.Assign [tg] e pos) := PS.imp (ps_asg he hg hs hw h1) fun D σ H ⟨F, O, S, fl, S', r, hf, k⟩ => by
  obtain ⟨o, S1, h1, h2⟩ := R.bind_ok hf
  refine ⟨F, O, S, o, S1, r, h1, fun v H1 F1 O1 st1 r1 ro => ?_⟩
  cases ef : force o S1 with
  | none => rw [ef] at h2; cases h2
  | some z =>
    obtain ⟨d, S2⟩ := z
    rw [ef] at h2
    dsimp only at h2
    cases eg : g d S2 with
    | none => rw [eg] at h2; cases h2
    | some S3 =>
      rw [eg] at h2
      cases h2
      obtain ⟨F2, O2, st2, r2, rd⟩ := force_ok r1 ro ef
      exact ⟨F2, O2, S2, d, S', r2, rd, eg, fun σ3 F3 O3 st3 r3 kk => k σ3 H1 F3 O3 ((st1.trans st2).trans st3) r3 kk⟩
end

noncomputable abbrev FI := SS → R (List D)
structure Walks (K : KG) (J : It) (ds : List D) (F : Hp) : Prop where
  go : ∀ i H F', Le F F' → Le F' H → i < ds.length → J.go i H
  yld : ∀ i H F' O σ S x H', Rp K H F' O σ S → Le F F' → i < ds.length → J.yld i H x H' → ∃ F'', Stp H F' O H' F'' O ∧ Rp K H' F'' O σ S ∧ ∀ d, ds[i]? = some d → RepD K F'' x d
  stop : ∀ H F', Le F F' → Le F' H → J.stop ds.length H
theorem PI.imp {X : Cx} {tg iter : Expr} {w w' : TI} (h : PI X tg iter w) (hm : ∀ σ H R, w' σ H R → w σ H R) : PI X tg iter w' := ⟨fun pins s σ H R I q => h.run pins s σ H R I (hm σ H R q)⟩
theorem PI.or {X : Cx} {tg iter : Expr} {w w' : TI} (h : PI X tg iter w) (h' : PI X tg iter w') : PI X tg iter (fun σ H R => w σ H R ∨ w' σ H R) := ⟨fun pins s σ H R I q => by
  rcases q with q | q
  · exact h.run pins s σ H R I q
  · exact h'.run pins s σ H R I q⟩
noncomputable def rdI (K : KG) (f : FI) : TI := fun σ H R' => ∃ F O S ds S', Rp K H F O σ S ∧ f S = .ok ds S' ∧
  ∀ J H' F' O', Stp H F O H' F' O' → Rp K H' F' O' σ S' → Walks K J ds F' → R' J H'
noncomputable abbrev DI (X : Cx) (f : FI) (iter : Expr) : Prop := ∀ tg, PI X tg iter (rdI (kg X) f)

theorem RepDs.one_iv {K : KG} {F : Hp} {vs : List V} {d : D} (h : RepDs K F vs [d]) : ∃ v, vs = [v] ∧ RepD K F v d := by
  cases h with
  | cons a r => cases r; exact ⟨_, rfl, a⟩
theorem RepD.lst_iv {K : KG} {F : Hp} {v : V} {ds : List D} (h : RepD K F v (.lst ds)) : ∃ p vs, v = .ref p ∧ Rd F p (.lst vs) ∧ RepDs K F vs ds := by
  cases h with
  | lst q r => exact ⟨_, _, rfl, q, r⟩
section
variable {K : KG} {F : Hp}
theorem walks_list {a : Addr} {vs : List V} {ds : List D} (h : Rd F a (.lst vs)) (r : RepDs K F vs ds) : Walks K (Itl K a) ds F := by
  refine ⟨fun i H F' l1 l2 hi => ?_, fun i H F' O σ S x H' rp l1 hi y => ?_, fun H F' l1 l2 => ?_⟩
  · have hi' : i < vs.length := by rw [r.len]; exact hi
    exact ⟨vs, vs[i], .inl ((l1.trans l2).rd h), List.getElem?_eq_getElem hi'⟩
  · obtain ⟨e, y⟩ := y
    subst e
    refine ⟨F', Stp.refl _ _ _, rp, fun d hd => ?_⟩
    have y2 := y vs (.inl ((l1.trans rp.bs.fh).rd h))
    obtain ⟨d', hd', rd⟩ := r.getV y2
    rw [hd] at hd'
    cases hd'
    exact rd.mono l1
  · exact ⟨vs, .inl ((l1.trans l2).rd h), Nat.le_of_eq r.len⟩
theorem walks_tup {a : Addr} {vs : List V} {ds : List D} (h : SqT K F a vs) (r : RepDs K F vs ds) : Walks K (Itt K a) ds F := by
  refine ⟨fun i H F' l1 l2 hi => ?_, fun i H F' O σ S x H' rp l1 hi y => ?_, fun H F' l1 l2 => ?_⟩
  · have hi' : i < vs.length := by rw [r.len]; exact hi
    exact ⟨vs, vs[i], (l1.trans l2).st h, List.getElem?_eq_getElem hi'⟩
  · obtain ⟨e, y⟩ := y
    subst e
    refine ⟨F', Stp.refl _ _ _, rp, fun d hd => ?_⟩
    have y2 := y vs ((l1.trans rp.bs.fh).st h)
    obtain ⟨d', hd', rd⟩ := r.getV y2
    rw [hd] at hd'
    cases hd'
    exact rd.mono l1
  · exact ⟨vs, (l1.trans l2).st h, Nat.le_of_eq r.len⟩
/-- lo, lo + 1, .. -/
noncomputable def rangeD (lo : Int) (n : Nat) : List D := (List.range n).map fun (k : Nat) => .int (lo + (k : Int))
theorem walks_range {lo : Int} {n : Nat} : Walks K (Itr lo n) (rangeD lo n) F := by
  have hl : (rangeD lo n).length = n := by unfold rangeD; rw [List.length_map, List.length_range]
  refine ⟨fun i H F' l1 l2 hi => ?_, fun i H F' O σ S x H' rp l1 hi y => ?_, fun H F' l1 l2 => ?_⟩
  · rw [hl] at hi; exact hi
  · obtain ⟨e, y⟩ := y
    subst e y
    refine ⟨F', Stp.refl _ _ _, rp, fun d hd => ?_⟩
    unfold rangeD at hd
    rw [List.getElem?_map, List.getElem?_range (by rw [hl] at hi; exact hi)] at hd
    cases hd
    exact .int _
  · show n ≤ (rangeD lo n).length
    rw [hl]; exact Nat.le_refl _
theorem di_any {X : Cx} {f : FI} {tg iter : Expr} (h : DI X f iter) : PI X tg iter (rdI (kg X) f) := h tg
/-- the signs of a text -/
noncomputable def strSeq (x : Str) : List D := x.cps.toList.map fun c => .str ⟨#[c]⟩
theorem walks_str {x : Str} : Walks K (Its x) (strSeq x) F := by
  have hl : (strSeq x).length = x.cps.size := by unfold strSeq; simp
  refine ⟨fun i H F' l1 l2 hi => ?_, fun i H F' O σ S v H' rp l1 hi y => ?_, fun H F' l1 l2 => ?_⟩
  · rw [hl] at hi; exact hi
  · obtain ⟨e, c, hc, ev⟩ := y
    subst e ev
    refine ⟨F', Stp.refl _ _ _, rp, fun d hd => ?_⟩
    unfold strSeq at hd
    rw [List.getElem?_map, Array.getElem?_toList, hc] at hd
    cases hd
    exact .str _
  · show x.cps.size ≤ (strSeq x).length
    rw [hl]; exact Nat.le_refl _
end
section
variable {X : Cx} {kp : Nat → Bool} {e a b : Expr} {pos : Pos} {st : Stmt} {rest : List Stmt} {f g : FS}
/-- a list, a tuple or a text, walked -/
noncomputable def iSeq (f : FE) : FI := fun S => (f S).bind fun o S => match force o S with
  | some (.lst ds, S1) => .ok ds S1
  | some (.tup ds, S1) => .ok ds S1
  | some (.str x, S1) => .ok (strSeq x) S1
  | _ => .no
theorem di_seq {f : FE} (h : DE X f e) : DI X (iSeq f) e := fun tg => by
  refine PI.imp (PI.or (pi_list h) (PI.or (pi_tup h) (pi_str h))) fun σ H R' ⟨F, O, S, ds, S', r, hf, k⟩ => ?_
  obtain ⟨o, S1, h1, h2⟩ := R.bind_ok hf
  cases ef : force o S1 with
  | none => rw [ef] at h2; cases h2
  | some z =>
    obtain ⟨d, S2⟩ := z
    rw [ef] at h2
    cases d with
    | lst xs =>
      cases h2
      refine .inl ⟨F, O, S, o, S1, r, h1, fun v H1 F1 O1 st1 r1 ro => ?_⟩
      obtain ⟨F2, O2, st2, r2, rd⟩ := force_ok r1 ro ef
      cases rd with
      | @lst a vs _ hs rds => exact ⟨a, rfl, ⟨vs, .inl (r2.bs.fh.rd hs)⟩, k _ H1 F2 O2 (st1.trans st2) r2 (walks_list hs rds)⟩
    | tup xs =>
      cases h2
      refine .inr (.inl ⟨F, O, S, o, S1, r, h1, fun v H1 F1 O1 st1 r1 ro => ?_⟩)
      obtain ⟨F2, O2, st2, r2, rd⟩ := force_ok r1 ro ef
      cases rd with
      | @tup a vs _ hs rds => exact ⟨a, rfl, ⟨vs, r2.bs.fh.st hs⟩, k _ H1 F2 O2 (st1.trans st2) r2 (walks_tup hs rds)⟩
    | str x =>
      cases h2
      refine .inr (.inr ⟨F, O, S, o, S1, r, h1, fun v H1 F1 O1 st1 r1 ro => ?_⟩)
      obtain ⟨F2, O2, st2, r2, rd⟩ := force_ok r1 ro ef
      cases rd with
      | str _ => exact ⟨x, rfl, k _ H1 F2 O2 (st1.trans st2) r2 walks_str⟩
    | _ => cases h2
noncomputable def iRng1 (f : FE) : FI := fun S => (f S).bind fun o S => match o.get S with
  | some (.int j) => if -4611686018427387904 ≤ j ∧ j < 4611686018427387904 then .ok (rangeD 0 j.toNat) S else .no
  | _ => .no
theorem di_rng1 {f : FE} {p : Pos} (hg : Gl X "range") (hm : X.mg "range" = none) (h : DE X f a) (hs : starEach [a] X.env = [(false, eval a X.env)] := by rfl) (hs2 : starEach [a] X.env = (false, eval a X.env) :: starEach [] X.env := by rfl) : DI X (iRng1 f) (.Call (.Name "range" p) [a] [] pos) := fun tg => by
  refine PI.imp (pi_range1 hg hm (pa_cons h pa_nil hs2) hs) fun σ H R' ⟨F, O, S, ds, S', r, hf, k⟩ => ?_
  obtain ⟨o, S1, h1, h2⟩ := R.bind_ok hf
  refine ⟨F, O, S, o, S1, r, h1, fun v H1 F1 O1 st1 r1 ro => ?_⟩
  cases eg : o.get S1 with
  | none => rw [eg] at h2; cases h2
  | some d =>
    rw [eg] at h2
    cases d with
    | int j =>
      dsimp only at h2
      split at h2
      · rename_i hb
        cases h2
        obtain rfl := (r1.view ro eg).int
        exact ⟨j, rfl, hb.1, hb.2, k _ H1 F1 O1 st1 r1 walks_range⟩
      · cases h2
    | _ => cases h2
/-- enumerate of a list -/
noncomputable def enumD (xs : List D) : List D := xs.mapIdx fun i x => .tup [.int i, x]
noncomputable def iEn (f : FA) : FI := fun S => (f S).bind fun os S => match forceAll os S with
  | some ([.lst xs], S2) => .ok (enumD xs) S2
  | _ => .no
theorem di_enum {f : FA} {p tpos : Pos} {elts : List Expr} {kk : Nat} (hg : Gl X "enumerate") (hm : X.mg "enumerate" = none) (h : DA X f [a])
    (hs : starEach [a] X.env = [(false, eval a X.env)] := by rfl) : PI X (.Tuple elts kk tpos) (.Call (.Name "enumerate" p) [a] [] pos) (rdI (kg X) (iEn f)) := by
  refine PI.imp (pi_enum hg hm h hs) fun σ H R' ⟨F, O, S, ds, S', r, hf, k⟩ => ?_
  obtain ⟨os, S1, h1, h2⟩ := R.bind_ok hf
  refine ⟨F, O, S, os, S1, r, h1, fun vs H1 F1 O1 st1 r1 ro => ?_⟩
  cases ef : forceAll os S1 with
  | none => rw [ef] at h2; cases h2
  | some z =>
    obtain ⟨zs, S2⟩ := z
    rw [ef] at h2
    obtain ⟨F2, O2, st2, r2, rd⟩ := forceAll_ok r1 ro ef
    have key : ∃ xs, zs = [.lst xs] ∧ R.ok (enumD xs) S2 = R.ok ds S' := by
      split at h2
      · rename_i e; cases e; exact ⟨_, rfl, h2⟩
      · cases h2
    obtain ⟨xs, rfl, h2⟩ := key
    cases h2
    obtain ⟨_, rfl, a1⟩ := rd.one_iv
    obtain ⟨p, vs1, rfl, q1, d1⟩ := a1.lst_iv
    · skip
      refine ⟨p, vs1, rfl, .inl (r2.bs.fh.rd q1), k _ H1 F2 O2 (st1.trans st2) r2 ?_⟩
      have hl : (enumD xs).length = vs1.length := by unfold enumD; rw [List.length_mapIdx, d1.len]
      refine ⟨fun i H F' l1 l2 hi => ?_, fun i H F' O σ S v H' rp l1 hi y => ?_, fun H F' l1 l2 => ?_⟩
      · rw [hl] at hi; exact ⟨vs1, _, .inl ((l1.trans l2).rd q1), List.getElem?_eq_getElem hi⟩
      · obtain ⟨T, x, ev, hT, eH, hx⟩ := y
        subst ev eH
        have hx := hx vs1 (.inl ((l1.trans rp.bs.fh).rd q1))
        obtain ⟨st, r⟩ := rp.layF (o := .tup [.int i, x]) hT
        refine ⟨_, st, r, fun d hd' => ?_⟩
        obtain ⟨d1', e1, r1⟩ := d1.getV hx
        unfold enumD at hd'
        rw [List.getElem?_mapIdx, e1] at hd'
        cases hd'
        exact .tup (.inl (.inl upd_same)) (.cons (.int _) (.cons (r1.mono (l1.trans st.ff)) .nil))
      · rw [hl]; exact ⟨vs1, .inl ((l1.trans l2).rd q1), Nat.le_refl _⟩
/-! ### for -/
noncomputable def forL (g : FG) (body : FS) : List D → SS → R Fl
  | [], S => .ok .nx S
  | d :: ds, S => match g d S with
    | none => .no
    | some S1 => (body S1).bind fun fl S2 => match fl with
      | .nx => forL g body ds S2
      | .ct => forL g body ds S2
      | .bk => .ok .nx S2
      | .rt m => .ok (.rt m) S2
noncomputable def sFor (i : FI) (g : FG) (body : FS) : FS := fun S => (i S).bind fun ds S => forL g body ds S
theorem ds_for {iter tg : Expr} {sts : List Stmt} {i : FI} {g : FG} (hp : PassesOwn (model X.prog X.w) X.A X.env X.xe) (hc : X.calm = true) (hi : PI X tg iter (rdI (kg X) i)) (hg : DG X kp g tg) (hb : DSs X kp f sts)
    (hs : ∀ x, foldedSetIterable iter X.env x = pure x := by intro _; rfl) : DS X kp (sFor i g f) (.For tg iter sts [] pos) := PS.imp (ps_for hp hc hi hg hb hs) fun D σ H ⟨F, O, S, fl, S', r, hf, k⟩ => by
  obtain ⟨ds, S1, h1, h2⟩ := R.bind_ok hf
  refine ⟨F, O, S, ds, S1, r, h1, fun J H1 F1 O1 st1 r1 wk => ?_⟩
  refine ⟨fun n m σ' H' => m = ds.length - n ∧ n ≤ ds.length ∧ ∃ F' O' S2, Stp H F O H' F' O' ∧ Rp (kg X) H' F' O' σ' S2 ∧ Le F1 F' ∧ Kp kp σ σ' ∧ forL g f (ds.drop n) S2 = .ok fl S', ⟨ds.length, rfl, Nat.zero_le _, F1, O1, S1, st1, r1, Le.refl _, Kp.refl _ _, h2⟩, ?_⟩
  rintro n m σ' H' ⟨rfl, hn, F', O', S2, st2, r2, l2, k2, hw⟩
  by_cases hlt : n < ds.length
  · refine .inr ⟨wk.go n H' F' l2 r2.bs.fh hlt, ?_⟩
    rw [List.drop_eq_getElem_cons hlt] at hw
    have hw : (match g ds[n] S2 with | none => .no | some S1 => (f S1).bind fun fl S2 => match fl with | .nx => forL g f (ds.drop (n + 1)) S2 | .ct => forL g f (ds.drop (n + 1)) S2 | .bk => .ok .nx S2 | .rt m => .ok (.rt m) S2) = R.ok fl S' := hw
    cases eg : g ds[n] S2 with
    | none => rw [eg] at hw; cases hw
    | some S3 =>
      rw [eg] at hw
      dsimp only at hw
      obtain ⟨fl4, S4, h3, h4⟩ := R.bind_ok hw
      refine ⟨fun σ5 H5 => ∃ F5 O5 S5, Stp H F O H5 F5 O5 ∧ Rp (kg X) H5 F5 O5 σ5 S5 ∧ Le F1 F5 ∧ Kp kp σ σ5 ∧ forL g f (ds.drop (n + 1)) S5 = .ok fl S', fun σ5 H5 q => ⟨ds.length - (n + 1), by omega, rfl, hlt, q⟩, fun x H5 y => ?_⟩
      obtain ⟨F5, st5, r5, rx⟩ := wk.yld n H' F' O' σ' S2 x H5 r2 l2 hlt y
      refine ⟨F5, O', S2, ds[n], S3, r5, rx _ (List.getElem?_eq_getElem hlt), eg, fun σ6 F6 O6 st6 r6 k6 => ⟨F6, O6, S3, fl4, S4, r6, h3, ?_⟩⟩
      have stA := st2.trans (st5.trans st6)
      have lA : Le F1 F6 := l2.trans (st5.ff.trans st6.ff)
      cases fl4 with
      | nx => exact fun σ7 H7 F7 O7 st7 r7 k7 => ⟨F7, O7, S4, stA.trans st7, r7, lA.trans st7.ff, (k2.trans k6).trans k7, h4⟩
      | ct => exact fun σ7 H7 F7 O7 st7 r7 k7 => ⟨F7, O7, S4, stA.trans st7, r7, lA.trans st7.ff, (k2.trans k6).trans k7, h4⟩
      | bk =>
        cases h4
        exact fun σ7 H7 F7 O7 st7 r7 k7 => k σ7 H7 F7 O7 (stA.trans st7) r7 ((k2.trans k6).trans k7)
      | rt m =>
        cases h4
        exact fun v σ7 H7 F7 O7 st7 r7 k7 rm => k v σ7 H7 F7 O7 (stA.trans st7) r7 ((k2.trans k6).trans k7) rm
  · have e : n = ds.length := by omega
    subst e
    rw [List.drop_length] at hw
    cases hw
    exact .inl ⟨wk.stop H' F' l2 r2.bs.fh, k σ' H' F' O' st2 r2 k2⟩

/-! ### while -/
noncomputable def whN (c : FB) (body : FS) : Nat → SS → R Fl
  | 0, _ => .no
  | n + 1, S => (c S).bind fun b S1 => if b = true then (body S1).bind fun fl S2 => (match fl with
      | .nx => whN c body n S2
      | .ct => whN c body n S2
      | .bk => .ok .nx S2
      | .rt m => .ok (.rt m) S2) else .ok .nx S1
open Classical in
noncomputable def sWhile (c : FB) (body : FS) : FS := fun S => if h : ∃ n, whN c body n S ≠ .no then whN c body h.choose S else .no
theorem whN_mono {c : FB} {body : FS} : ∀ {n : Nat} {S : SS} {r : R Fl}, whN c body n S = r → r ≠ .no → whN c body (n + 1) S = r
  | 0, S, r, h, hn => absurd h.symm hn
  | n + 1, S, r, h, hn => by
    show (c S).bind _ = r
    have h : ((c S).bind fun b S1 => if b = true then (body S1).bind fun fl S2 => (match fl with | .nx => whN c body n S2 | .ct => whN c body n S2 | .bk => .ok .nx S2 | .rt m => .ok (.rt m) S2) else .ok .nx S1) = r := h
    cases e1 : c S with
    | ex x S1 => rw [e1] at h; exact h
    | no => rw [e1] at h; exact h
    | ok b S1 =>
      rw [e1] at h
      show (if b = true then (body S1).bind _ else _) = r
      have h : (if b = true then (body S1).bind fun fl S2 => (match fl with | .nx => whN c body n S2 | .ct => whN c body n S2 | .bk => .ok .nx S2 | .rt m => .ok (.rt m) S2) else .ok .nx S1) = r := h
      cases b with
      | false => exact h
      | true =>
        rw [if_pos rfl] at h ⊢
        cases e2 : body S1 with
        | ex x S2 => rw [e2] at h; exact h
        | no => rw [e2] at h; exact h
        | ok fl S2 =>
          rw [e2] at h
          cases fl with
          | nx => exact whN_mono (n := n) h hn
          | ct => exact whN_mono (n := n) h hn
          | bk => exact h
          | rt m => exact h
theorem whN_le {c : FB} {body : FS} {n m : Nat} {S : SS} {r : R Fl} (h : whN c body n S = r) (hn : r ≠ .no) (hl : n ≤ m) : whN c body m S = r := by
  induction hl with
  | refl => exact h
  | step _ ih => exact whN_mono ih hn
theorem sWhile_of {c : FB} {body : FS} {n : Nat} {S : SS} {r : R Fl} (h : whN c body n S = r) (hn : r ≠ .no) : sWhile c body S = r := by
  have hx : ∃ n, whN c body n S ≠ .no := ⟨n, by rw [h]; exact hn⟩
  unfold sWhile
  rw [dif_pos hx]
  have h2 := hx.choose_spec
  rcases Nat.le_total n hx.choose with l | l
  · exact whN_le h hn l
  · exact (whN_le rfl h2 l).symm.trans h
theorem sWhile_at {c : FB} {body : FS} {S : SS} {r : R Fl} (h : sWhile c body S = r) (hn : r ≠ .no) : ∃ n, whN c body n S = r := by
  unfold sWhile at h
  split at h
  · exact ⟨_, h⟩
  · exact absurd h.symm hn
/-- one turn -/
theorem sWhile_eq (c : FB) (body : FS) (S : SS) : sWhile c body S = (c S).bind fun b S1 => if b = true then (body S1).bind fun fl S2 => (match fl with
      | .nx => sWhile c body S2
      | .ct => sWhile c body S2
      | .bk => .ok .nx S2
      | .rt m => .ok (.rt m) S2) else .ok .nx S1 := by
  have key : ∀ r : R Fl, r ≠ .no → ((c S).bind fun b S1 => if b = true then (body S1).bind fun fl S2 => (match fl with | .nx => sWhile c body S2 | .ct => sWhile c body S2 | .bk => .ok .nx S2 | .rt m => .ok (.rt m) S2) else .ok .nx S1) = r → sWhile c body S = r := by
    intro r hn h
    have mk : ∀ n, ((c S).bind fun b S1 => if b = true then (body S1).bind fun fl S2 => (match fl with | .nx => whN c body n S2 | .ct => whN c body n S2 | .bk => .ok .nx S2 | .rt m => .ok (.rt m) S2) else .ok .nx S1) = r → sWhile c body S = r := fun n h => sWhile_of (n := n + 1) h hn
    cases e1 : c S with
    | ex x S1 => rw [e1] at h mk; exact mk 0 h
    | no => rw [e1] at h mk; exact mk 0 h
    | ok b S1 =>
      rw [e1] at h mk
      cases b with
      | false => exact mk 0 h
      | true =>
        dsimp only [R.bind] at h mk
        rw [if_pos rfl] at h
        simp only [if_true] at mk
        cases e2 : body S1 with
        | ex x S2 => rw [e2] at h mk; exact mk 0 h
        | no => rw [e2] at h mk; exact mk 0 h
        | ok fl S2 =>
          rw [e2] at h mk
          cases fl with
          | nx =>
            obtain ⟨n, hn'⟩ := sWhile_at (r := r) h hn
            exact mk n hn'
          | ct =>
            obtain ⟨n, hn'⟩ := sWhile_at (r := r) h hn
            exact mk n hn'
          | bk => exact mk 0 h
          | rt m => exact mk 0 h
  by_cases hz : sWhile c body S = .no
  · rw [hz]
    by_cases hy : ((c S).bind fun b S1 => if b = true then (body S1).bind fun fl S2 => (match fl with | .nx => sWhile c body S2 | .ct => sWhile c body S2 | .bk => .ok .nx S2 | .rt m => .ok (.rt m) S2) else .ok .nx S1) = .no
    · exact hy.symm
    · exact hz.symm.trans (key _ hy rfl)
  · obtain ⟨n, hn⟩ := sWhile_at (r := sWhile c body S) rfl hz
    refine Eq.symm ?_
    cases n with
    | zero => exact absurd hn.symm hz
    | succ n =>
      have hn2 : ((c S).bind fun b S1 => if b = true then (body S1).bind fun fl S2 => (match fl with | .nx => whN c body n S2 | .ct => whN c body n S2 | .bk => .ok .nx S2 | .rt m => .ok (.rt m) S2) else .ok .nx S1) = sWhile c body S := hn
      generalize sWhile c body S = r at hn2 hz
      cases e1 : c S with
      | ex x S1 => rw [e1] at hn2; exact hn2
      | no => rw [e1] at hn2; exact hn2
      | ok b S1 =>
        rw [e1] at hn2
        cases b with
        | false => exact hn2
        | true =>
          dsimp only [R.bind] at hn2 ⊢
          rw [if_pos rfl] at hn2 ⊢
          cases e2 : body S1 with
          | ex x S2 => rw [e2] at hn2; exact hn2
          | no => rw [e2] at hn2; exact hn2
          | ok fl S2 =>
            rw [e2] at hn2
            cases fl with
            | nx => exact sWhile_of hn2 hz
            | ct => exact sWhile_of hn2 hz
            | bk => exact hn2
            | rt m => exact hn2
theorem ds_while {c : Expr} {sts : List Stmt} {t : FB} (hp : PassesOwn (model X.prog X.w) X.A X.env X.xe) (hc : DT X t c) (hb : DSs X kp f sts) : DS X kp (sWhile t f) (.While c sts [] pos) := PS.imp (ps_while hp hc hb) fun D σ H ⟨F, O, S, fl, S', r, hf, k⟩ => by
  obtain ⟨n0, h0⟩ := sWhile_at hf (by intro z; cases z)
  refine ⟨fun n σ' H' => ∃ F' O' S1, Stp H F O H' F' O' ∧ Rp (kg X) H' F' O' σ' S1 ∧ Kp kp σ σ' ∧ whN t f n S1 = .ok fl S', ⟨n0, F, O, S, Stp.refl _ _ _, r, Kp.refl _ _, h0⟩, ?_⟩
  rintro n σ' H' ⟨F', O', S1, st1, r1, k1, hw⟩
  cases n with
  | zero => cases hw
  | succ n =>
    have hw : ((t S1).bind fun b S1 => if b = true then (f S1).bind fun fl S2 => (match fl with | .nx => whN t f n S2 | .ct => whN t f n S2 | .bk => .ok .nx S2 | .rt m => .ok (.rt m) S2) else .ok .nx S1) = .ok fl S' := hw
    obtain ⟨b, S2, h1, h2⟩ := R.bind_ok hw
    refine ⟨F', O', S1, b, S2, r1, h1, fun H2 F2 O2 st2 r2 => ?_⟩
    cases b with
    | false =>
      cases h2
      exact k σ' H2 F2 O2 (st1.trans st2) r2 k1
    | true =>
      rw [if_pos rfl] at h2
      obtain ⟨fl4, S4, h3, h4⟩ := R.bind_ok h2
      refine ⟨fun σ5 H5 => ∃ F5 O5 S5, Stp H F O H5 F5 O5 ∧ Rp (kg X) H5 F5 O5 σ5 S5 ∧ Kp kp σ σ5 ∧ whN t f n S5 = .ok fl S', fun σ5 H5 q => ⟨n, Nat.lt_succ_self _, q⟩, F2, O2, S2, fl4, S4, r2, h3, ?_⟩
      have stA := st1.trans st2
      cases fl4 with
      | nx => exact fun σ7 H7 F7 O7 st7 r7 k7 => ⟨F7, O7, S4, stA.trans st7, r7, k1.trans k7, h4⟩
      | ct => exact fun σ7 H7 F7 O7 st7 r7 k7 => ⟨F7, O7, S4, stA.trans st7, r7, k1.trans k7, h4⟩
      | bk =>
        cases h4
        exact fun σ7 H7 F7 O7 st7 r7 k7 => k σ7 H7 F7 O7 (stA.trans st7) r7 (k1.trans k7)
      | rt m =>
        cases h4
        exact fun v σ7 H7 F7 O7 st7 r7 k7 rm => k v σ7 H7 F7 O7 (stA.trans st7) r7 (k1.trans k7) rm
end

/-! ### comprehensions -/
noncomputable def wipeS (S : SS) : List Nat → SS
  | [] => S
  | v :: vs => (wipeS S vs).set v none
noncomputable def keepD : Option M → Option M
  | some (.d x) => some (.d x)
  | _ => none
noncomputable def restS (S1 S2 : SS) : List Nat → SS
  | [] => S2
  | v :: vs => (restS S1 S2 vs).set v (keepD (S1.at v))
theorem wipeS_len (S : SS) : ∀ vs, (wipeS S vs).length = S.length
  | [] => rfl
  | v :: vs => by show ((wipeS S vs).set v none).length = _; rw [List.length_set, wipeS_len S vs]
theorem restS_len (S1 S2 : SS) : ∀ vs, (restS S1 S2 vs).length = S2.length
  | [] => rfl
  | v :: vs => by show ((restS S1 S2 vs).set v _).length = _; rw [List.length_set, restS_len S1 S2 vs]
theorem wipeS_at {S : SS} {j : Nat} {m : M} : ∀ {vs : List Nat}, (wipeS S vs).at j = some m → j ∉ vs ∧ S.at j = some m
  | [], h => ⟨by simp, h⟩
  | v :: vs, h => by
    rcases SS.at_set h with ⟨_, e⟩ | ⟨ne, h⟩
    · cases e
    · obtain ⟨h1, h2⟩ := wipeS_at h
      exact ⟨by simp only [List.mem_cons, not_or]; exact ⟨fun e => ne e.symm, h1⟩, h2⟩
theorem wipeS_out {S : SS} {j : Nat} : ∀ {vs : List Nat}, j ∉ vs → (wipeS S vs).at j = S.at j
  | [], _ => rfl
  | v :: vs, h => by
    simp only [List.mem_cons, not_or] at h
    show SS.at ((wipeS S vs).set v none) j = _
    rw [SS.set_ne (fun e => h.1 e.symm), wipeS_out h.2]
theorem restS_at {S1 S2 : SS} {j : Nat} {m : M} : ∀ {vs : List Nat}, (restS S1 S2 vs).at j = some m → (∃ x, m = .d x ∧ S1.at j = some (.d x)) ∨ (j ∉ vs ∧ S2.at j = some m)
  | [], h => .inr ⟨by simp, h⟩
  | v :: vs, h => by
    rcases SS.at_set h with ⟨ev, e⟩ | ⟨ne, h⟩
    · subst ev
      cases e1 : S1.at v with
      | none => rw [e1] at e; cases e
      | some n =>
        rw [e1] at e
        cases n with
        | d x => cases e; exact .inl ⟨x, rfl, rfl⟩
        | lst _ => cases e
        | _ => cases e
    · rcases restS_at h with h | ⟨h1, h2⟩
      · exact .inl h
      · exact .inr ⟨by simp only [List.mem_cons, not_or]; exact ⟨fun e => ne e.symm, h1⟩, h2⟩
theorem wipe_get {σ : St} {j : Nat} {v : V} : ∀ {vs : List Nat}, j ∉ vs → σ[j]? = some (some v) → (wipe σ vs)[j]? = some (some v)
  | [], _, h => h
  | u :: vs, hj, h => by
    simp only [List.mem_cons, not_or] at hj
    show ((wipe σ vs).set u none)[j]? = _
    rw [List.getElem?_set_ne (fun e => hj.1 e.symm)]
    exact wipe_get hj.2 h
section
variable {K : KG} {H F H' F' : Hp} {O O' : OW} {σ : St} {S S1 S2 : SS} {vs : List Nat}
theorem Rp.wipe (r : Rp K H F O σ S) : Rp K H F O (L2.wipe σ vs) (wipeS S vs) := by
  refine ⟨r.bs, by rw [wipeS_len, wipe_length]; exact r.len, fun j m h => ?_⟩
  obtain ⟨hj, h⟩ := wipeS_at h
  obtain ⟨v, hv, rm⟩ := r.sl j m h
  exact ⟨v, wipe_get hj hv, rm⟩
theorem Rp.rest (r1 : Rp K H F O σ S1) (l : Le F F') (r : Rp K H' F' O' (L2.wipe σ vs) (wipeS S2 vs)) : Rp K H' F' O' σ (restS S1 S2 vs) := by
  refine ⟨r.bs, ?_, fun j m h => ?_⟩
  · have e := r.len
    rw [wipeS_len, wipe_length] at e
    rw [restS_len]; exact e
  · rcases restS_at h with ⟨x, em, h1⟩ | ⟨hj, h2⟩
    · subst em
      obtain ⟨v, hv, rm⟩ := r1.sl j _ h1
      exact ⟨v, hv, RepD.mono l rm⟩
    · obtain ⟨v, hv, rm⟩ := r.sl j m (by rw [wipeS_out hj]; exact h2)
      exact ⟨v, (wipe_some hv).1, rm⟩
/-- an object that is nobody's -/
theorem Stp.limbo {p : Addr} {o : HO} (st : Stp H F O H' F' O') (h : H p = some o) (hF : F p = none) (hO : O p = none) : H' p = some o ∧ F' p = none ∧ O' p = none := by
  refine ⟨st.kp p o h hO, ?_, ?_⟩
  · cases e : F' p with
    | none => rfl
    | some u =>
      rcases st.fz p u e with z | ⟨q, z⟩ | z
      · rw [hF] at z; cases z
      · rw [hO] at z; cases z
      · rw [h] at z; cases z
  · cases e : O' p with
    | none => rfl
    | some u =>
      rcases st.nw p u e with ⟨q, z⟩ | z
      · rw [hO] at z; cases z
      · rw [h] at z; cases z
theorem Rp.limbo {p : Addr} {o : HO} (r : Rp K H F O σ S) (hF : F p = none) (hO : O p = none) : Rp K (upd H p o) F O σ S := by
  have lf : Le F (upd H p o) := fun a u e => by
    rw [upd_ne (ne_of_none e hF)]
    exact r.bs.fh a u e
  have lo : ∀ {a : Addr} {q : Pl}, O a = some q → a ≠ p := fun {a q} e z => by rw [z, hO] at e; cases e
  refine ⟨⟨lf, fun a q e => ?_⟩, r.len, fun i m e => ?_⟩
  · obtain ⟨h1, u, h2⟩ := r.bs.fo a q e
    exact ⟨h1, u, by rw [upd_ne (lo e)]; exact h2⟩
  · obtain ⟨v, hv, rm⟩ := r.sl i m e
    exact ⟨v, hv, rm.stay (Le.refl _) fun a u _ e1 e2 => ⟨by rw [upd_ne (lo e1)]; exact e2, e1⟩⟩
/-- a step, an object that was not there at its start changed -/
theorem Stp.upd {p : Addr} {o : HO} (st : Stp H F O H' F' O') (h : H p = none) : Stp H F O (L2.upd H' p o) F' O' :=
  ⟨st.ff, fun a u e e2 => by rw [upd_ne (ne_of_none e h)]; exact st.kp a u e e2, st.nw, st.fz, fun a u e => let ⟨u', e'⟩ := st.al a u e; ⟨u', by rw [upd_ne (ne_of_none e h)]; exact e'⟩⟩
theorem Rp.claim {p : Addr} {vs' : List V} {ds : List D} (r : Rp K H F O σ S) (hF : F p = none) (hO : O p = none) (hH : H p = some (.lst vs')) (rd : RepDs K F vs' ds) : Rp K H F (ownR O p (.r, [])) σ S ∧ RepM K H F (ownR O p (.r, [])) (.r, []) (.ref p) (.lst ds) := by
  have lo : ∀ {a : Addr} {q : Pl}, O a = some q → a ≠ p := fun {a q} e z => by rw [z, hO] at e; cases e
  refine ⟨⟨⟨r.bs.fh, fun a q e => ?_⟩, r.len, fun i m e => ?_⟩, p, vs', rfl, if_pos rfl, hH, rd⟩
  · unfold ownR at e
    split at e
    · rename_i z; subst z; exact ⟨hF, _, hH⟩
    · exact r.bs.fo a q e
  · obtain ⟨v, hv, rm⟩ := r.sl i m e
    exact ⟨v, hv, rm.stay (Le.refl _) fun a u _ e1 e2 => ⟨e2, by unfold ownR; rw [if_neg (lo e1)]; exact e1⟩⟩
end
noncomputable def lcL (own : List Nat) (g : FG) (t : FB) (fe : FE) : List D → SS → List D → R (List D)
  | [], S, acc => .ok acc S
  | d :: ds, S, acc => match g d (wipeS S own) with
    | none => .no
    | some S1 => (t S1).bind fun b S2 => if b = true then (fe S2).bind fun o S3 => (match force o S3 with
        | some (x, S4) => if acc.length < line then lcL own g t fe ds S4 (acc ++ [x]) else .no
        | none => .no) else lcL own g t fe ds S2 acc
noncomputable def mLc (own : List Nat) (fi : FI) (g : FG) (t : FB) (fe : FE) : FM := fun S => (fi S).bind fun ds S1 => (lcL own g t fe ds S1 []).bind fun acc S2 => .ok (.lst acc) (restS S1 S2 own)
noncomputable def kpo (own : List Nat) (i : Nat) : Bool := !own.contains i
theorem wipe_same {σ σ2 : St} {own : List Nat} (h : Kp (kpo own) (wipe σ own) σ2) : wipe σ2 own = wipe σ own := by
  have out : ∀ {σ : St} {j : Nat} {vs : List Nat}, j ∉ vs → (wipe σ vs)[j]? = σ[j]? := fun {σ j vs} hj => by
    induction vs with
    | nil => rfl
    | cons u vs ih =>
      simp only [List.mem_cons, not_or] at hj
      show ((wipe σ vs).set u none)[j]? = _
      rw [List.getElem?_set_ne (fun e => hj.1 e.symm), ih hj.2]
  have inn : ∀ {σ : St} {j : Nat} {vs : List Nat}, j ∈ vs → (wipe σ vs)[j]? = if j < σ.length then some none else none := fun {σ j vs} hj => by
    induction vs with
    | nil => cases hj
    | cons u vs ih =>
      show ((wipe σ vs).set u none)[j]? = _
      by_cases e : u = j
      · subst e
        by_cases hl : u < σ.length
        · rw [List.getElem?_set_self (by rw [wipe_length]; exact hl), if_pos hl]
        · rw [if_neg hl, List.getElem?_eq_none (by rw [List.length_set, wipe_length]; omega)]
      · rw [List.getElem?_set_ne e]
        exact ih (by rcases List.mem_cons.mp hj with z | z; exact absurd z.symm e; exact z)
  apply List.ext_getElem?
  intro j
  by_cases hj : j ∈ own
  · rw [inn hj, inn hj, h.1, wipe_length]
  · rw [out hj, out hj]
    have := h.2 j (by unfold kpo; simpa using hj)
    rw [this, out hj]
theorem lc_rd {K : KG} {own : List Nat} {fi : FI} {g : FG} {t : FB} {fe : FE} {σ : St} {H : Hp} {Q : VK} (h : rdM K (mLc own fi g t fe) σ H Q) :
    tLc (rdI K fi) (rdG K (kpo own) g) (rdT K t) (rdE K fe) own σ H Q := by
  obtain ⟨F, O, S, m, S', r, hf, k⟩ := h
  obtain ⟨ds, S1, h1, h2⟩ := R.bind_ok hf
  obtain ⟨accf, Sf, h3, h4⟩ := R.bind_ok h2
  cases h4
  refine ⟨F, O, S, ds, S1, r, h1, fun J H1 F1 O1 st1 r1 wk L hL => ?_⟩
  have hHL : H L = none := by
    cases e : H L with
    | none => rfl
    | some o =>
      obtain ⟨u, hu⟩ := st1.al L o e
      rw [hL] at hu; cases hu
  obtain ⟨hF1, hO1⟩ := r1.bs.free hL
  have r1w : Rp K (upd H1 L (.lst [])) F1 O1 (wipe σ own) (wipeS S1 own) := (Rp.limbo r1 hF1 hO1).wipe
  refine ⟨fun n m H' => m = ds.length - n ∧ n ≤ ds.length ∧ ∃ F' O' S2 acc vs, Stp H F O H' F' O' ∧ Rp K H' F' O' (wipe σ own) (wipeS S2 own) ∧ Le F1 F' ∧ F' L = none ∧ O' L = none ∧ H' L = some (.lst vs) ∧ RepDs K F' vs acc ∧
    lcL own g t fe (ds.drop n) S2 acc = .ok accf Sf, ⟨ds.length, rfl, Nat.zero_le _, F1, O1, S1, [], [], st1.upd hHL, r1w, Le.refl _, hF1, hO1, upd_same, .nil, h3⟩, ?_⟩
  rintro n m H' ⟨rfl, hn, F', O', S2, acc, vs, st2, r2, l2, hF, hO, hH, rv, hw⟩
  by_cases hlt : n < ds.length
  · refine .inr ⟨wk.go n H' F' l2 r2.bs.fh hlt, ?_⟩
    rw [List.drop_eq_getElem_cons hlt] at hw
    have hw : (match g ds[n] (wipeS S2 own) with
      | none => .no
      | some S1 => (t S1).bind fun b S2 => if b = true then (fe S2).bind fun o S3 => (match force o S3 with
        | some (x, S4) => if acc.length < line then lcL own g t fe (ds.drop (n + 1)) S4 (acc ++ [x]) else .no
        | none => .no) else lcL own g t fe (ds.drop (n + 1)) S2 acc) = R.ok accf Sf := hw
    cases eg : g ds[n] (wipeS S2 own) with
    | none => rw [eg] at hw; cases hw
    | some S3 =>
      rw [eg] at hw
      dsimp only at hw
      obtain ⟨b, S4, h5, h6⟩ := R.bind_ok hw
      refine ⟨fun H5 => ∃ F5 O5 S5 acc vs, Stp H F O H5 F5 O5 ∧ Rp K H5 F5 O5 (wipe σ own) (wipeS S5 own) ∧ Le F1 F5 ∧ F5 L = none ∧ O5 L = none ∧ H5 L = some (.lst vs) ∧ RepDs K F5 vs acc ∧
        lcL own g t fe (ds.drop (n + 1)) S5 acc = .ok accf Sf, fun H5 q => ⟨ds.length - (n + 1), by omega, rfl, hlt, q⟩, fun x H5 y => ?_⟩
      obtain ⟨F5, st5, r5, rx⟩ := wk.yld n H' F' O' _ _ x H5 r2 l2 hlt y
      refine ⟨F5, O', _, ds[n], S3, r5, rx _ (List.getElem?_eq_getElem hlt), eg, fun σ6 F6 O6 st6 r6 k6 => ⟨wipe_same k6, F6, O6, S3, b, S4, r6, h5, fun H7 F7 O7 st7 r7 => ?_⟩⟩
      have stB := st5.trans (st6.trans st7)
      have stA := st2.trans stB
      have lA : Le F1 F7 := l2.trans stB.ff
      obtain ⟨hH7, hF7, hO7⟩ := stB.limbo hH hF hO
      cases b with
      | false =>
        rw [if_neg (by decide)] at h6
        show (if false = true then _ else _)
        rw [if_neg (by decide)]
        have rw7 := r7.wipe (vs := own)
        rw [wipe_same k6] at rw7
        exact ⟨F7, O7, S4, acc, vs, stA, rw7, lA, hF7, hO7, hH7, rv.mono stB.ff, h6⟩
      | true =>
        rw [if_pos rfl] at h6
        show (if true = true then _ else _)
        rw [if_pos rfl]
        obtain ⟨o, S5, h7, h8⟩ := R.bind_ok h6
        refine ⟨F7, O7, S4, o, S5, r7, h7, fun y8 H8 F8 O8 st8 r8 ro => ?_⟩
        cases ef : force o S5 with
        | none => rw [ef] at h8; cases h8
        | some z =>
          obtain ⟨d, S6⟩ := z
          rw [ef] at h8
          dsimp only at h8
          split at h8
          · rename_i hlen
            obtain ⟨F9, O9, st9, r9, rd⟩ := force_ok r8 ro ef
            have st89 := st8.trans st9
            obtain ⟨hH9, hF9, hO9⟩ := st89.limbo hH7 hF7 hO7
            have rvA : RepDs K F9 vs acc := rv.mono (stB.ff.trans st89.ff)
            refine ⟨vs, hH9, by rw [rv.len, ← line_eq]; exact hlen, ?_⟩
            have r10 := (Rp.limbo (o := .lst (vs ++ [y8])) r9 hF9 hO9).wipe (vs := own)
            rw [wipe_same k6] at r10
            exact ⟨F9, O9, S6, acc ++ [d], vs ++ [y8], (stA.trans st89).upd hHL, r10, lA.trans st89.ff, hF9, hO9, upd_same, rvA.snoc rd, h8⟩
          · cases h8
  · have e : n = ds.length := by omega
    subst e
    rw [List.drop_length] at hw
    cases hw
    refine .inl ⟨wk.stop H' F' l2 r2.bs.fh, ?_⟩
    obtain ⟨rc, rm⟩ := (r1.rest l2 r2).claim hF hO hH rv
    refine k (.ref L) H' F' _ ⟨st2.ff, st2.kp, fun a q e => ?_, st2.fz, st2.al⟩ rc rm
    unfold ownR at e
    split at e
    · rename_i z; subst z; exact .inr hHL
    · exact st2.nw a q e
noncomputable abbrev DTs (X : Cx) (t : FB) (ifs : List Expr) : Prop := PTs X ifs (rdT (kg X) t)
noncomputable def tTrue : FB := fun S => .ok true S
section
variable {X : Cx} {kp : Nat → Bool} {e a b : Expr} {pos : Pos}
theorem dts_nil : DTs X tTrue [] := ⟨fun pins s σ H Q I ⟨F, O, S, b, S', r, h, k⟩ => by
  cases h
  exact pts_nil.run pins s σ H Q I (k H F O (Stp.refl _ _ _) r)⟩
theorem dts_one {c : Expr} {t : FB} (h : DT X t c) : DTs X t [c] := pts_one h
theorem kbG {s : Shared} {H : Hp} {scope : Scope} {ce : Env} {fp : List Addr} {g : FG} (hc : X.calm = true) (h : DG (X.blk s H scope ce fp) kp g e) : PG (X.blk s H scope ce fp) e (rdG (kg X) kp g) := kg_blk hc s H scope ce fp ▸ h
theorem kbT {s : Shared} {H : Hp} {scope : Scope} {ce : Env} {fp : List Addr} {t : FB} {ifs : List Expr} (hc : X.calm = true) (h : DTs (X.blk s H scope ce fp) t ifs) : PTs (X.blk s H scope ce fp) ifs (rdT (kg X) t) := kg_blk hc s H scope ce fp ▸ h
theorem kbE {s : Shared} {H : Hp} {scope : Scope} {ce : Env} {fp : List Addr} {f : FE} (hc : X.calm = true) (h : DE (X.blk s H scope ce fp) f e) : PE (X.blk s H scope ce fp) e (rdE (kg X) f) := kg_blk hc s H scope ce fp ▸ h
theorem dm_lc {elt tg iter : Expr} {ifs : List Expr} {scope : Scope} {own : List (Str × Nat)} {fi : FI} {g : FG} {t : FB} {fe : FE} (hc : X.calm = true) (hN : X.N.Nodup) (hi : PI X tg iter (rdI (kg X) fi)) (ok : BlkOk X.N X.env.scope scope own)
    (hg : ∀ (s : Shared) (H : Hp) (C : Addr) (cl : List (Str × Addr)) (fp : List Addr), DG (X.blk s H scope (compEnvC scope cl C X.env) fp) (kpo (own.map (·.2))) g tg)
    (ht : ∀ (s : Shared) (H : Hp) (C : Addr) (cl : List (Str × Addr)) (fp : List Addr), DTs (X.blk s H scope (compEnvC scope cl C X.env) fp) t ifs)
    (he : ∀ (s : Shared) (H : Hp) (C : Addr) (cl : List (Str × Addr)) (fp : List Addr), DE (X.blk s H scope (compEnvC scope cl C X.env) fp) fe elt) (hs : ∀ x, foldedSetIterable iter X.env x = pure x := by intro _; rfl) :
    DM X (mLc (own.map (·.2)) fi g t fe) (.ListComp elt [⟨tg, iter, ifs, 0⟩] scope pos) := PE.imp (pe_lc hc hN hi ok (fun s H C cl fp => kbG hc (hg s H C cl fp)) (fun s H C cl fp => kbT hc (ht s H C cl fp)) (fun s H C cl fp => kbE hc (he s H C cl fp)) hs) fun σ H Q h => lc_rd h
/-- name = [..] -/
theorem ds_setLc {i : Nat} {y : Str} {py spos : Pos} {elt tg iter : Expr} {ifs : List Expr} {scope : Scope} {own : List (Str × Nat)} {fi : FI} {g : FG} {t : FB} {fe : FE} (hc : X.calm = true) (hN : X.N.Nodup) (hy : X.N[i]? = some y) (hyl : X.env.scope.names.lookup y = some .local) (hk : kp i = false)
    (hsw : swapsWith (.ListComp elt [⟨tg, iter, ifs, 0⟩] scope pos) (some (.Name y py)) spos.line X.env = pure true) (hi : PI X tg iter (rdI (kg X) fi)) (ok : BlkOk X.N X.env.scope scope own)
    (hg : ∀ (s : Shared) (H : Hp) (C : Addr) (cl : List (Str × Addr)) (fp : List Addr), DG (X.blk s H scope (compEnvC scope cl C X.env) fp) (kpo (own.map (·.2))) g tg)
    (ht : ∀ (s : Shared) (H : Hp) (C : Addr) (cl : List (Str × Addr)) (fp : List Addr), DTs (X.blk s H scope (compEnvC scope cl C X.env) fp) t ifs)
    (he : ∀ (s : Shared) (H : Hp) (C : Addr) (cl : List (Str × Addr)) (fp : List Addr), DE (X.blk s H scope (compEnvC scope cl C X.env) fp) fe elt) (hs : ∀ x, foldedSetIterable iter X.env x = pure x := by intro _; rfl) :
    DS X kp (sSet i (mLc (own.map (·.2)) fi g t fe)) (.Assign [.Name y py] (.ListComp elt [⟨tg, iter, ifs, 0⟩] scope pos) spos) :=
  PS.imp (ps_setLc hc hN hy hyl hsw hi ok (fun s H C cl fp => kbG hc (hg s H C cl fp)) (fun s H C cl fp => kbT hc (ht s H C cl fp)) (fun s H C cl fp => kbE hc (he s H C cl fp)) hs) fun D σ H h => set_rd hk (fun _ _ _ q => lc_rd q) h
end

inductive CR where
  | ok (r : M) (fin : List (Option M))
  | ex (x : Exn) (fin : List (Option M))
  | no
noncomputable def M.own : M → Bool
  | .d _ => false
  | .exn _ => false
  | _ => true
noncomputable def lend : List Ov → SS → Option (List M × SS)
  | [], S => some ([], S)
  | .d x :: os, S => match lend os S with
    | some (ms, S') => some (.d x :: ms, S')
    | none => none
  | .j i :: os, S => match S.at i with
    | some m => (match lend os (if m.own then S.set i none else S) with
      | some (ms, S') => some (m :: ms, S')
      | none => none)
    | none => none
noncomputable def back : List Ov → List M → List (Option M) → SS → SS
  | .j i :: os, m :: ms, f :: fs, S => back os ms fs (if m.own then S.set i f else S)
  | .d _ :: os, _ :: ms, _ :: fs, S => back os ms fs S
  | _, _, _, S => S
noncomputable def Lent (os : List Ov) (ms : List M) (p i : Nat) : Prop := os[p]? = some (.j i) ∧ ∃ m, ms[p]? = some m ∧ m.own = true
theorem Lent.succ {o : Ov} {os : List Ov} {m : M} {ms : List M} {p i : Nat} : Lent (o :: os) (m :: ms) (p + 1) i ↔ Lent os ms p i := by
  unfold Lent
  simp
structure LendOk (os : List Ov) (ms : List M) (S S' : SS) : Prop where
  len : ms.length = os.length
  sl : S'.length = S.length
  dd : ∀ (p : Nat) (x : D), os[p]? = some (Ov.d x) → ms[p]? = some (M.d x)
  jj : ∀ (p i : Nat), os[p]? = some (Ov.j i) → ∃ m, ms[p]? = some m ∧ S.at i = some m
  inj : ∀ p p' i, Lent os ms p i → Lent os ms p' i → p = p'
  st : ∀ j m, S'.at j = some m → S.at j = some m ∧ ∀ p, ¬ Lent os ms p j
theorem lend_ok : ∀ {os : List Ov} {S S' : SS} {ms : List M}, lend os S = some (ms, S') → LendOk os ms S S'
  | [], S, S', ms, h => by
    cases h
    exact ⟨rfl, rfl, fun p x e => by simp at e, fun p i e => by simp at e, fun p p' i e => by simp [Lent] at e, fun j m e => ⟨e, fun p q => by simp [Lent] at q⟩⟩
  | .d x :: os, S, S', ms, h => by
    have h : (match lend os S with | some (ms, S') => some (M.d x :: ms, S') | none => none) = some (ms, S') := h
    cases e1 : lend os S with
    | none => rw [e1] at h; cases h
    | some z =>
      obtain ⟨mr, S1⟩ := z
      rw [e1] at h
      cases h
      have L := lend_ok e1
      have n0 : ∀ i, ¬ Lent (.d x :: os) (.d x :: mr) 0 i := fun i q => by
        have := q.1
        simp at this
      refine ⟨by simp [L.len], L.sl, fun p y e => ?_, fun p i e => ?_, fun p p' i e e' => ?_, fun j m e => ?_⟩
      · cases p with
        | zero => simp at e ⊢; exact e
        | succ p => simpa using L.dd p y (by simpa using e)
      · cases p with
        | zero => simp at e
        | succ p => simpa using L.jj p i (by simpa using e)
      · cases p with
        | zero => exact absurd e (n0 i)
        | succ p =>
          cases p' with
          | zero => exact absurd e' (n0 i)
          | succ p' => exact congrArg (· + 1) (L.inj p p' i (Lent.succ.mp e) (Lent.succ.mp e'))
      · obtain ⟨h1, h2⟩ := L.st j m e
        refine ⟨h1, fun p q => ?_⟩
        cases p with
        | zero => exact n0 j q
        | succ p => exact h2 p (Lent.succ.mp q)
  | .j i :: os, S, S', ms, h => by
    have h : (match S.at i with | some m => (match lend os (if m.own then S.set i none else S) with | some (ms, S') => some (m :: ms, S') | none => none) | none => none) = some (ms, S') := h
    cases em : S.at i with
    | none => rw [em] at h; cases h
    | some m0 =>
      rw [em] at h
      dsimp only at h
      cases e1 : lend os (if m0.own then S.set i none else S) with
      | none => rw [e1] at h; cases h
      | some z =>
        obtain ⟨mr, S1⟩ := z
        rw [e1] at h
        cases h
        have L := lend_ok e1
        have atS : ∀ j m, SS.at (if m0.own then S.set i none else S) j = some m → S.at j = some m ∧ (m0.own = true → i ≠ j) := fun j m e => by
          cases ho : m0.own with
          | false => rw [ho] at e; exact ⟨e, fun z => by cases z⟩
          | true =>
            rw [ho] at e
            rcases SS.at_set e with ⟨_, z⟩ | ⟨ne, z⟩
            · cases z
            · exact ⟨z, fun _ => ne⟩
        have n0 : ∀ k, Lent (.j i :: os) (m0 :: mr) 0 k → k = i ∧ m0.own = true := fun k q => by
          obtain ⟨q1, m, q2, q3⟩ := q
          simp at q1 q2
          subst q2
          exact ⟨q1.symm, q3⟩
        have nl : m0.own = true → ∀ p, ¬ Lent os mr p i := fun ho p q => by
          obtain ⟨q1, _⟩ := q
          obtain ⟨m, _, q2⟩ := L.jj p i q1
          exact (atS i m q2).2 ho rfl
        refine ⟨by simp [L.len], by rw [L.sl]; split <;> simp, fun p y e => ?_, fun p k e => ?_, fun p p' k e e' => ?_, fun j m e => ?_⟩
        · cases p with
          | zero => simp at e
          | succ p => simpa using L.dd p y (by simpa using e)
        · cases p with
          | zero => simp at e; subst e; exact ⟨m0, by simp, em⟩
          | succ p =>
            obtain ⟨m, q1, q2⟩ := L.jj p k (by simpa using e)
            exact ⟨m, by simpa using q1, (atS k m q2).1⟩
        · cases p with
          | zero =>
            obtain ⟨ek, ho⟩ := n0 k e
            subst ek
            cases p' with
            | zero => rfl
            | succ p' => exact absurd (Lent.succ.mp e') (nl ho p')
          | succ p =>
            cases p' with
            | zero =>
              obtain ⟨ek, ho⟩ := n0 k e'
              subst ek
              exact absurd (Lent.succ.mp e) (nl ho p)
            | succ p' => exact congrArg (· + 1) (L.inj p p' k (Lent.succ.mp e) (Lent.succ.mp e'))
        · obtain ⟨h1, h2⟩ := L.st j m e
          obtain ⟨h3, h4⟩ := atS j m h1
          refine ⟨h3, fun p q => ?_⟩
          cases p with
          | zero =>
            obtain ⟨ej, ho⟩ := n0 j q
            exact h4 ho ej.symm
          | succ p => exact h2 p (Lent.succ.mp q)
theorem back_len : ∀ {os : List Ov} {ms : List M} {fs : List (Option M)} {S : SS}, (back os ms fs S).length = S.length
  | [], _, _, _ => by unfold back; rfl
  | .d x :: os, [], _, _ => by unfold back; rfl
  | .d x :: os, _ :: _, [], _ => by unfold back; rfl
  | .d x :: os, m :: ms, f :: fs, S => by
    show (back os ms fs S).length = _
    exact back_len
  | .j x :: os, [], _, _ => by unfold back; rfl
  | .j x :: os, _ :: _, [], _ => by unfold back; rfl
  | .j i :: os, m :: ms, f :: fs, S => by
    show (back os ms fs (if m.own then S.set i f else S)).length = _
    rw [back_len]
    split <;> simp
theorem back_at {j : Nat} {m : M} : ∀ {os : List Ov} {ms : List M} {fs : List (Option M)} {S : SS}, (back os ms fs S).at j = some m → (∃ p, Lent os ms p j ∧ fs[p]? = some (some m)) ∨ S.at j = some m
  | [], _, _, _, h => .inr (by unfold back at h; exact h)
  | .d x :: os, [], _, _, h => .inr (by unfold back at h; exact h)
  | .d x :: os, _ :: _, [], _, h => .inr (by unfold back at h; exact h)
  | .d x :: os, m' :: ms, f :: fs, S, h => by
    have h : (back os ms fs S).at j = some m := h
    rcases back_at h with ⟨p, h1, h2⟩ | h1
    · exact .inl ⟨p + 1, Lent.succ.mpr h1, by simpa using h2⟩
    · exact .inr h1
  | .j x :: os, [], _, _, h => .inr (by unfold back at h; exact h)
  | .j x :: os, _ :: _, [], _, h => .inr (by unfold back at h; exact h)
  | .j i :: os, m' :: ms, f :: fs, S, h => by
    have h : (back os ms fs (if m'.own then S.set i f else S)).at j = some m := h
    rcases back_at h with ⟨p, h1, h2⟩ | h1
    · exact .inl ⟨p + 1, Lent.succ.mpr h1, by simpa using h2⟩
    · cases ho : m'.own with
      | false => rw [ho] at h1; exact .inr h1
      | true =>
        rw [ho] at h1
        rcases SS.at_set h1 with ⟨e1, e2⟩ | ⟨_, e⟩
        · subst e1
          exact .inl ⟨0, ⟨by simp, m', by simp, ho⟩, by simp [e2]⟩
        · exact .inr e

/-! ### what a def promises -/
noncomputable def spD (K : KG) (np : Nat) (g : List M → CR) : Sp := fun vs H Q E => ∃ F O ms r fin, vs.length = np ∧ ms.length = np ∧ Bs H F O ∧ (∀ p m, ms[p]? = some m → ∃ v, vs[p]? = some v ∧ RepM K H F O (.s p, []) v m) ∧ g ms = .ok r fin ∧
  ∀ v H' F' O', Stp H F O H' F' O' → Bs H' F' O' → RepM K H' F' O' (.r, []) v r → (∀ p m, fin[p]? = some (some m) → ∃ w, vs[p]? = some w ∧ RepM K H' F' O' (.s p, []) w m) → Q v H'
/-- room where no repr is under way -/
structure RoomG (k : Nat) (A : Around) : Prop where
  rm : Room k A
  gd : A.guards = some []
theorem RoomG.deeper {k : Nat} {A : Around} (r : RoomG (k + 1) A) (env : Env) : RoomG k (A.deeper env) := ⟨r.rm.deeper env, r.gd⟩
/-- a def's promise where no repr is under way -/
structure FnG (P : Program) (w : World) (K : PySem.W.Frag) (mg : Str → Option Value) (base : Heap) (k : Nat) (f : Addr) (fd : FuncData) (ps : List Str) (sp : Sp) : Prop where
  len : ∀ vs H Q E, sp vs H Q E → vs.length = ps.length
  run : ∀ (A : Around) (outer : List Env) (s : Shared) (H : Hp) (args : Args) (us : List Value) (vs : List V) (Q : VK) (E : XK), RoomG k A → Env0 P w K mg base A outer s H → BindsTo s fd args (ps.zip us) → Vals vs us → sp vs H Q E →
    codeAny (model P w) A (.call (.ref f) args) (L2.CR CX0 outer P w H s Q E) s
section
variable {X : Cx} {k : Nat} {f : Addr} {fd : FuncData} {ps : List Str} {sp : Sp} {E : XK} {x : Str} {p pos : Pos} {e : Expr} {es : List Expr} {t : TA}
theorem run_g {pins : List (Addr × Obj)} {σ : St} {H : Hp} {s : Shared} {Q : VK} {us : List Value} {vs : List V} (F : FnG X.prog X.w X.K X.mg X.base k f fd ps sp) (hr : RoomG k X.A) (hb : Binds X.K fd ps [])
    (I : Inv X pins σ H s) (r : Vals vs us) (h : sp vs H Q E) : wpAny (model X.prog X.w) X.A (call (.ref f) us) (EP X pins σ Q) X.xe s := by
  have hl : us.length = ps.length := by rw [← r.length]; exact F.len _ _ _ _ h
  have hb' := hb s us I.kIn (by rw [List.append_nil]; exact hl)
  rw [List.append_nil] at hb'
  refine wpAny_call (codeAny_mono (F.run X.A X.stack s H ⟨us, []⟩ us vs Q E hr I.env0 hb' r h) fun r s' hq => ?_)
  match r, hq with
  | .ok (.ret u), hq => exact I.after hq
theorem pe_callG (F : FnG X.prog X.w X.K X.mg X.base k f fd ps sp) (hr : RoomG k X.A) (hg : Gl X x) (hm : X.mg x = some (.ref f)) (hk : PySem.W.keepIn X.K (.ref f) = true) (hb : Binds X.K fd ps [])
    (ha : PA X (e :: es) t) (hdb : (x == ("__debug__" : Str)) = false := by decide) (he : starEach (e :: es) X.env = (false, eval e X.env) :: starEach es X.env := by rfl) (hpl : (backTo pos (starEach es X.env)).any (·.1) = false := by rfl) :
    PE X (.Call (.Name x p) (e :: es) [] pos) (tCall sp [] E t) :=
  ⟨fun pins s σ H Q I h => wpAny_Call_Name_kw (ld_glob I hg hm (PySem.W.callWith_K (h₀ := X.base) I.ok.mod.kin hk (thn (ha.run pos pins s σ H _ I h) fun us s1 ⟨vs, H1, I1, r, q⟩ =>
    ⟨I1.kIn, run_g (E := E) F hr hb I1 r (by have q : sp (vs ++ []) H1 Q E := q; rw [List.append_nil] at q; exact q)⟩) he hpl) hdb)⟩
end
/-- a def of the text, whatever its defaults are -/
structure FunV (K : PySem.W.Frag) (x qual : Str) (st : Stmt) (f : Addr) (fd : FuncData) : Prop where
  ex : ∃ (oc : Value) (od : Option Addr) (dV kV doc pm : Value) (an : Option Addr) (cdv ct : Value) (osl : Array (Option Value)),
    fd = PySem.W.fnOf x qual (defArgs st) (defBody st) (defScope st) dV kV doc pm an cdv ct ∧ K.lookup f = some ⟨oc, od, .func fd, osl⟩ ∧ PySem.W.codeIn K cdv qual = true
  kp : PySem.W.keepIn K (.ref f) = true
theorem toV {K : PySem.W.Frag} {x qual : Str} {st : Stmt} {f : Addr} {fd : FuncData} (F : Fun K x qual st f fd) : FunV K x qual st f fd :=
  let ⟨oc, od, kV, doc, pm, an, cdv, ct, osl, e, lk, hcd⟩ := F.ex
  ⟨⟨oc, od, .none, kV, doc, pm, an, cdv, ct, osl, e, lk, hcd⟩, F.kp⟩
theorem ok_gV {P : Program} {w : World} {K : PySem.W.Frag} {mg : Str → Option Value} {base : Heap} {x qual : Str} {st : Stmt} {f : Addr} {fd : FuncData} {N ps : List Str} {k : Nat} {sp : Sp} (F : FunV K x qual st f fd) (S : FnScope N ps (defScope st)) (len : ∀ vs H Q E, sp vs H Q E → vs.length = ps.length)
    (hbody : ∀ (cdv : Value) (A : Around) (outer : List Env) (s : Shared) (H : Hp) (vs : List V) (Q : VK) (E : XK), RoomG k (A.deeper (envOfC qual (defScope st) s.heap.objs.size f cdv)) → sp vs H Q E →
      ∃ t, PSs (cxOf CX0 P w K mg base N qual (defScope st) f cdv A outer s H E).nox (defBody st) t ∧ t { nx := fun _ H' => Q .non H', rt := Q } (L2.start N vs) H) : FnG P w K mg base (k + 1) f fd ps sp := by
  obtain ⟨oc, od, dV, kV, doc, pm, an, cdv, ct, osl, rfl, lk, hcd⟩ := F.ex
  refine ⟨len, fun A outer s H args us vs Q E hr e0 hb r hsp => ?_⟩
  have hl := len _ _ _ _ hsp
  have kx : ∀ b o, base.get? b = some o → s.heap.get? b = some o := fun b o e => (e0.bs b o e).1
  have KX : K.In s.heap := e0.mod.kin.keeps kx
  refine codeAny_call_function hr.rm.depth (KX _ _ lk) rfl S.co S.gen rfl (PySem.W.codeRec_of KX hcd) (hb _ _ _ _ ?_)
  refine wpAny_newFunctionEnv_cells S.kind (fun ⟨n, v⟩ hy => ?_) fun env he s1 y => ?_
  · rcases S.par n (List.of_mem_zip hy).1 with q | q
    · exact .inl q
    · exact .inr ⟨q, PySem.W.cellsFrom_some _ _ _ (.inl q)⟩
  · subst he
    refine ⟨(e0.mod.nolimit.keeps kx).keeps y.toInCall.keep, codeAny_func ?_⟩
    obtain ⟨t, ht, hq⟩ := hbody cdv A outer s H vs Q E (hr.deeper _) hsp
    have I : L2.Inv (cxOf CX0 P w K mg base N qual (defScope st) f cdv A outer s H E) [] (L2.start N vs) H s1 := inv_start S hr.rm.hd e0 hl r y
    have hw := ht.nox.run [] s1 (L2.start N vs) H _ I hq
    refine wpAny_mono hw (fun fl s' hs => ?_) fun e s' hs => hs
    have done : ∀ {σ' : St} {H' : Hp} {v : V} {u : Value}, L2.Inv (cxOf CX0 P w K mg base N qual (defScope st) f cdv A outer s H E) [] σ' H' s' → RelV v u → Q v H' → L2.CE outer P w H s Q u s' :=
      fun {σ' H' v u} J rv q => ⟨v, H', J.os, J.bare, J.base, J.hok, rv, q⟩
    cases fl with
    | ret u =>
      obtain ⟨v, σ', H', J, rv, q⟩ := hs
      exact done J rv q
    | next =>
      obtain ⟨σ', H', J, q⟩ := hs
      exact done (v := V.non) (u := Value.none) J rfl q
    | brk =>
      obtain ⟨_, _, _, q⟩ := hs
      exact False.elim q
    | cont =>
      obtain ⟨_, _, _, q⟩ := hs
      exact False.elim q
structure FnD (P : Program) (w : World) (K : PySem.W.Frag) (mg : Str → Option Value) (base : Heap) (n : Nat) (x : Str) (np : Nat) (g : List M → CR) : Prop where
  ex : ∃ (f : Addr) (fd : FuncData) (ps : List Str), ps.length = np ∧ FnG P w K mg base n f fd ps (spD (kg0 K mg) np g) ∧ mg x = some (.ref f) ∧ PySem.W.keepIn K (.ref f) = true ∧ Binds K fd ps []
noncomputable def mCall (g : List M → CR) (fas : FA) : FM := fun S => (fas S).bind fun os S1 => match lend os S1 with
  | some (ms, S2) => (match g ms with
    | .ok r fin => .ok r (back os ms fin S2)
    | .ex x fin => .ex x (back os ms fin S2)
    | .no => .no)
  | none => .no

section
open Classical
noncomputable def posOf (os : List Ov) (ms : List M) (i : Nat) : Option Nat := if h : ∃ p, Lent os ms p i then some h.choose else none
theorem posOf_of {os : List Ov} {ms : List M} {i p : Nat} (inj : ∀ p p' i, Lent os ms p i → Lent os ms p' i → p = p') (h : Lent os ms p i) : posOf os ms i = some p := by
  unfold posOf
  have hx : ∃ p, Lent os ms p i := ⟨p, h⟩
  rw [dif_pos hx]
  exact congrArg some (inj _ _ i hx.choose_spec h)
theorem posOf_none {os : List Ov} {ms : List M} {i : Nat} (h : ∀ p, ¬ Lent os ms p i) : posOf os ms i = none := by
  unfold posOf
  rw [dif_neg (fun ⟨p, q⟩ => h p q)]
noncomputable def inO (os : List Ov) (ms : List M) (O : OW) : OW := fun a => match O a with
  | some (.s i, pth) => (match posOf os ms i with
    | some p => some (.s p, pth)
    | none => none)
  | _ => none
noncomputable def outO (os : List Ov) (ms : List M) (O Oc : OW) : OW := fun a => match Oc a with
  | some (.s p, pth) => (match os[p]? with
    | some (.j i) => if Lent os ms p i then some (.s i, pth) else none
    | _ => none)
  | some (.r, pth) => some (.r, pth)
  | none => (match O a with
    | some (.s i, pth) => (match posOf os ms i with
      | some _ => none
      | none => some (.s i, pth))
    | _ => none)
section
variable {os : List Ov} {ms : List M} {O Oc : OW} {a : Addr} {q : Pl}
theorem inO_some (h : inO os ms O a = some q) : ∃ q', O a = some q' := by
  unfold inO at h
  cases e : O a with
  | none => rw [e] at h; cases h
  | some q' => exact ⟨q', rfl⟩
theorem outO_some (h : outO os ms O Oc a = some q) : (∃ q', Oc a = some q') ∨ (Oc a = none ∧ ∃ i pth, O a = some (.s i, pth) ∧ posOf os ms i = none ∧ q = (.s i, pth)) := by
  unfold outO at h
  cases e : Oc a with
  | some q' => exact .inl ⟨q', rfl⟩
  | none =>
    rw [e] at h
    dsimp only at h
    cases e2 : O a with
    | none => rw [e2] at h; cases h
    | some z =>
      rw [e2] at h
      obtain ⟨rt, pth⟩ := z
      cases rt with
      | r => cases h
      | s i =>
        dsimp only at h
        cases e3 : posOf os ms i with
        | some _ => rw [e3] at h; cases h
        | none => rw [e3] at h; cases h; exact .inr ⟨rfl, i, pth, rfl, e3, rfl⟩
theorem inO_none_of {i : Nat} {pth : List Nat} (h : O a = some (.s i, pth)) (hp : posOf os ms i = none) : inO os ms O a = none := by
  unfold inO
  rw [h]
  dsimp only
  rw [hp]
end
end
section
variable {X : Cx} {e : Expr} {es : List Expr} {p pos : Pos} {x : Str} {n np : Nat} {g : List M → CR}
/-- the operands are handed over, what is lent comes back -/
noncomputable def callR (g : List M → CR) (os : List Ov) (S1 : SS) : R M := match lend os S1 with
  | some (ms, S2) => (match g ms with
    | .ok r fin => .ok r (back os ms fin S2)
    | .ex x fin => .ex x (back os ms fin S2)
    | .no => .no)
  | none => .no
theorem call_core {K : KG} {H1 F1 : Hp} {O1 : OW} {σ : St} {S1 S' : SS} {m : M} {os : List Ov} {vs : List V} {Q : VK} {E : XK} {np : Nat} {g : List M → CR} (r1 : Rp K H1 F1 O1 σ S1) (ro : RepOvs K F1 σ vs os) (eos : os.length = np) (h2 : callR g os S1 = .ok m S')
    (k : ∀ v H' F' O', Stp H1 F1 O1 H' F' O' → Rp K H' F' O' σ S' → RepM K H' F' O' (.r, []) v m → Q v H') : spD K np g vs H1 Q E := by
  unfold callR at h2
  cases el : lend os S1 with
  | none => rw [el] at h2; cases h2
  | some z =>
    obtain ⟨ms, S2⟩ := z
    rw [el] at h2
    dsimp only at h2
    cases eg : g ms with
    | ex x fin => rw [eg] at h2; cases h2
    | no => rw [eg] at h2; cases h2
    | ok rr fin =>
      rw [eg] at h2
      cases h2
      have L := lend_ok el
      have rolen : ∀ {vs : List V} {os : List Ov}, RepOvs K F1 σ vs os → vs.length = os.length := fun {vs os} h => by
        induction h with
        | nil => rfl
        | cons _ _ ih => simp [ih]
      have roget : ∀ {vs : List V} {os : List Ov} {i : Nat} {o : Ov}, RepOvs K F1 σ vs os → os[i]? = some o → ∃ v, vs[i]? = some v ∧ RepOv K F1 σ v o := fun {vs os i o} h => by
        induction h generalizing i with
        | nil => intro e; simp at e
        | cons h _ ih =>
          intro e
          cases i with
          | zero => simp at e; subst e; exact ⟨_, by simp, h⟩
          | succ i =>
            obtain ⟨v, q1, q2⟩ := ih (by simpa using e)
            exact ⟨v, by simpa using q1, q2⟩
      have inBs : Bs H1 F1 (inO os ms O1) := ⟨r1.bs.fh, fun a q hq => by
        obtain ⟨q', e⟩ := inO_some hq
        exact r1.bs.fo a q' e⟩
      refine ⟨F1, inO os ms O1, ms, m, fin, by rw [rolen ro, eos], by rw [L.len, eos], inBs, fun p mm hp => ?_, eg, fun v H2 F2 Oc st2 bs2 rm rf => ?_⟩
      · -- the arguments
        have hlt : p < os.length := by rw [← L.len]; exact (List.getElem?_eq_some_iff.mp hp).1
        have eo : os[p]? = some os[p] := List.getElem?_eq_getElem hlt
        obtain ⟨v, hv, rv⟩ := roget ro eo
        refine ⟨v, hv, ?_⟩
        cases eop : os[p] with
        | d y =>
          rw [eop] at eo rv
          have := L.dd p y eo
          rw [hp] at this
          cases this
          exact rv
        | j i =>
          rw [eop] at eo rv
          obtain ⟨m', q1, q2⟩ := L.jj p i eo
          rw [hp] at q1
          cases q1
          obtain ⟨w, hw, rw'⟩ := r1.sl i _ q2
          have z : σ[i]? = some (some v) := rv
          rw [hw] at z
          cases z
          cases ho : mm.own with
          | false =>
            cases mm with
            | d y => exact rw'
            | exn _ => exact rw'
            | lst _ => cases ho
            | _ => cases ho
          | true =>
            have hl : Lent os ms p i := ⟨eo, mm, hp, ho⟩
            exact RepM.move (Le.refl _) (fun a o _ e1 e2 => ⟨e2, by unfold inO; rw [e1]; dsimp only; rw [posOf_of L.inj hl]⟩) rw'
      · -- behind the call
        have keepO : ∀ a i pth, O1 a = some (.s i, pth) → posOf os ms i = none → Oc a = none ∧ ∀ o, H1 a = some o → H2 a = some o := fun a i pth e hp => by
          have hin := inO_none_of (os := os) (ms := ms) e hp
          refine ⟨?_, fun o ho => st2.kp a o ho hin⟩
          cases e2 : Oc a with
          | none => rfl
          | some q =>
            rcases st2.nw a q e2 with ⟨q', z⟩ | z
            · rw [hin] at z; cases z
            · obtain ⟨_, u, hu⟩ := r1.bs.fo a _ e
              rw [hu] at z; cases z
        have st3 : Stp H1 F1 O1 H2 F2 (outO os ms O1 Oc) := by
          refine ⟨st2.ff, fun a o ha e => st2.kp a o ha ?_, fun a q hq => ?_, fun a o ha => ?_, st2.al⟩
          · unfold inO; rw [e]
          · rcases outO_some hq with ⟨q', e⟩ | ⟨_, i, pth, e, _⟩
            · rcases st2.nw a q' e with ⟨q2, z⟩ | z
              · exact .inl (inO_some z)
              · exact .inr z
            · exact .inl ⟨_, e⟩
          · rcases st2.fz a o ha with z | ⟨q, z⟩ | z
            · exact .inl z
            · exact .inr (.inl (inO_some z))
            · exact .inr (.inr z)
        have bs3 : Bs H2 F2 (outO os ms O1 Oc) := by
          refine ⟨bs2.fh, fun a q hq => ?_⟩
          rcases outO_some hq with ⟨q', e⟩ | ⟨e0, i, pth, e, hp, _⟩
          · exact bs2.fo a q' e
          · obtain ⟨z1, u, z2⟩ := r1.bs.fo a _ e
            obtain ⟨_, k2⟩ := keepO a i pth e hp
            refine ⟨?_, u, k2 u z2⟩
            cases e5 : F2 a with
            | none => rfl
            | some y =>
              rcases st2.fz a y e5 with z | ⟨q', z⟩ | z
              · rw [z1] at z; cases z
              · rw [inO_none_of (os := os) (ms := ms) e hp] at z; cases z
              · rw [z2] at z; cases z
        refine k v H2 F2 _ st3 ⟨bs3, ?_, fun j mm hj => ?_⟩ (RepM.move (Le.refl _) (fun a o _ e1 e2 => ⟨e2, by unfold outO; rw [e1]⟩) rm)
        · rw [back_len, L.sl]; exact r1.len
        · rcases back_at hj with ⟨p, hl, hfp⟩ | hj
          · obtain ⟨w, hw, rw'⟩ := rf p mm hfp
            obtain ⟨v', hv', rv'⟩ := roget ro hl.1
            rw [hw] at hv'
            cases hv'
            refine ⟨w, rv', RepM.move (Le.refl _) (fun a o _ e1 e2 => ⟨e2, ?_⟩) rw'⟩
            unfold outO
            rw [e1]
            dsimp only
            rw [hl.1]
            dsimp only
            rw [if_pos hl]
          · obtain ⟨h3, h4⟩ := L.st j mm hj
            obtain ⟨w, hw, rw'⟩ := r1.sl j mm h3
            have hp := posOf_none h4
            refine ⟨w, hw, rw'.stay st2.ff fun a o pp e1 e2 => ?_⟩
            obtain ⟨k1, k2⟩ := keepO a j pp e1 hp
            refine ⟨k2 o e2, ?_⟩
            unfold outO
            rw [k1]
            dsimp only
            rw [e1]
            dsimp only
            rw [hp]
theorem call_rd {K : KG} {fas : FA} {σ : St} {H : Hp} {Q : VK} (h : rdM K (mCall g fas) σ H Q) (hnp : ∀ S os S', fas S = .ok os S' → os.length = np) : tCall (spD K np g) [] (fun _ _ _ => False) (rdA K fas) σ H Q := by
  obtain ⟨F, O, S, m, S', r, hf, k⟩ := h
  obtain ⟨os, S1, h1, h2⟩ := R.bind_ok hf
  refine ⟨F, O, S, os, S1, r, h1, fun vs H1 F1 O1 st1 r1 ro => ?_⟩
  show spD K np g (vs ++ []) H1 Q _
  rw [List.append_nil]
  exact call_core r1 ro (hnp S os S1 h1) h2 fun v H' F' O' st r' rm => k v H' F' O' (st1.trans st) r' rm
/-- how many operands there are -/
noncomputable def Many (f : FA) (n : Nat) : Prop := ∀ S os S', f S = .ok os S' → os.length = n
theorem many_nil : Many aNil 0 := fun S os S' h => by cases h; rfl
theorem many_cons {f : FE} {g : FA} {n : Nat} (h : Many g n) : Many (aCons f g) (n + 1) := fun S os S' hf => by
  obtain ⟨o, S1, h1, h2⟩ := R.bind_ok hf
  obtain ⟨or, S2, h3, h4⟩ := R.bind_ok h2
  cases h4
  exact congrArg (· + 1) (h _ _ _ h3)
theorem dm_call {fas : FA} (F : FnD X.prog X.w X.K X.mg X.base n x np g) (hr : RoomG n X.A) (hg : Gl X x) (ha : DA X fas (e :: es)) (hm : Many fas np) (hdb : (x == ("__debug__" : Str)) = false := by decide)
    (he : starEach (e :: es) X.env = (false, eval e X.env) :: starEach es X.env := by rfl) (hpl : (backTo pos (starEach es X.env)).any (·.1) = false := by rfl) (hcm : X.calm = true := by rfl) : DM X (mCall g fas) (.Call (.Name x p) (e :: es) [] pos) := by
  obtain ⟨f, fd, ps, hps, hF, hmg, hk, hb⟩ := F.ex
  rw [← kg_calm hcm] at hF
  exact PE.imp (pe_callG (E := fun _ _ _ => False) hF hr hg hmg hk hb ha hdb he hpl) fun σ H Q h => call_rd h hm
end
/-! ### a def -/
noncomputable def finOf (kp : Nat → Bool) (S : SS) : Nat → Nat → List (Option M)
  | _, 0 => []
  | i, n + 1 => (if kp i then S.at i else none) :: finOf kp S (i + 1) n
noncomputable def runFn (np nl : Nat) (kp : Nat → Bool) (body : FS) : List M → CR := fun ms => if ms.length = np then (match body (ms.map some ++ List.replicate (nl - np) none) with
  | .ok (.rt m) S => .ok m (finOf kp S 0 np)
  | .ok .nx S => .ok (.d .non) (finOf kp S 0 np)
  | .ex x S => .ex x (finOf kp S 0 np)
  | _ => .no) else .no
theorem finOf_at {kp : Nat → Bool} {S : SS} {m : M} : ∀ {n i p : Nat}, (finOf kp S i n)[p]? = some (some m) → kp (i + p) = true ∧ S.at (i + p) = some m ∧ p < n
  | 0, i, p, h => by simp [finOf] at h
  | n + 1, i, 0, h => by
    simp only [finOf, List.getElem?_cons_zero, Option.some.injEq] at h
    split at h
    · rename_i hk; exact ⟨hk, h, Nat.succ_pos _⟩
    · cases h
  | n + 1, i, p + 1, h => by
    simp only [finOf, List.getElem?_cons_succ] at h
    obtain ⟨h1, h2, h3⟩ := finOf_at h
    have e : i + 1 + p = i + (p + 1) := by omega
    rw [e] at h1 h2
    exact ⟨h1, h2, Nat.succ_lt_succ h3⟩
theorem fn_okV0 {P : Program} {w : World} {K : PySem.W.Frag} {mg : Str → Option Value} {base : Heap} {x qual : Str} {st : Stmt} {f : Addr} {fd : FuncData} {N ps : List Str} {k : Nat} {kp : Nat → Bool} {body : FS} (F : FunV K x qual st f fd) (S : FnScope N ps (defScope st))
    (hbody : ∀ (cdv : Value) (A : Around) (outer : List Env) (s : Shared) (H : Hp) (E : XK), RoomG k (A.deeper (envOfC qual (defScope st) s.heap.objs.size f cdv)) → DSs (cxOf CX0 P w K mg base N qual (defScope st) f cdv A outer s H E).nox kp body (defBody st)) :
    FnG P w K mg base (k + 1) f fd ps (spD (kg0 K mg) ps.length (runFn ps.length N.length kp body)) := by
  refine ok_gV F S (fun vs H Q E ⟨_, _, _, _, _, h, _⟩ => h) fun cdv A outer s H vs Q E hr hsp => ⟨_, hbody cdv A outer s H E hr, ?_⟩
  obtain ⟨F', O, ms, r, fin, hv, hm, bs, args, hg, k⟩ := hsp
  unfold runFn at hg
  rw [if_pos hm] at hg
  have hst : ∀ p v, vs[p]? = some v → (L2.start N vs)[p]? = some (some v) := fun p v e => by
    unfold L2.start
    have hl := (List.getElem?_eq_some_iff.mp e).1
    rw [List.getElem?_append_left (by simpa using hl), List.getElem?_map, e]
    rfl
  have r0 : Rp (kg0 K mg) H F' O (L2.start N vs) (ms.map some ++ List.replicate (N.length - ps.length) none) := by
    refine ⟨bs, by unfold L2.start; simp [hm, hv], fun i m e => ?_⟩
    have e' : ms[i]? = some m := by
      unfold SS.at at e
      by_cases hl : i < (ms.map some).length
      · rw [List.getElem?_append_left hl, List.getElem?_map] at e
        cases e2 : ms[i]? with
        | none => rw [e2] at e; cases e
        | some z => rw [e2] at e; exact e
      · rw [List.getElem?_append_right (by omega)] at e
        rw [List.getElem?_replicate] at e
        split at e <;> cases e
    obtain ⟨v, h1, h2⟩ := args i m e'
    exact ⟨v, hst i v h1, h2⟩
  have fins : ∀ {S' : SS} {σ' : St} {H' F'' : Hp} {O' : OW}, Rp (kg0 K mg) H' F'' O' σ' S' → Kp kp (L2.start N vs) σ' → ∀ p m, (finOf kp S' 0 ps.length)[p]? = some (some m) → ∃ w, vs[p]? = some w ∧ RepM (kg0 K mg) H' F'' O' (.s p, []) w m := fun {S' σ' H' F'' O'} r1 kk p m e => by
    obtain ⟨h1, h2, h3⟩ := finOf_at e
    rw [Nat.zero_add] at h1 h2
    obtain ⟨w, hw, rm⟩ := r1.sl p m h2
    have hl : p < vs.length := by rw [hv]; exact h3
    have e2 := List.getElem?_eq_getElem hl
    rw [kk.2 p h1, hst p _ e2] at hw
    cases hw
    exact ⟨_, e2, rm⟩
  show rdS (kg0 K mg) kp body _ (L2.start N vs) H
  cases eb : body (ms.map some ++ List.replicate (N.length - ps.length) none) with
  | no => rw [eb] at hg; cases hg
  | ex x S' => rw [eb] at hg; cases hg
  | ok fl S' =>
    rw [eb] at hg
    refine ⟨F', O, _, fl, S', r0, eb, ?_⟩
    cases fl with
    | nx =>
      cases hg
      exact fun σ' H' F'' O' st' r' kk => k .non H' F'' O' st' r'.bs .non (fins r' kk)
    | rt m =>
      cases hg
      exact fun v σ' H' F'' O' st' r' kk rm => k v H' F'' O' st' r'.bs rm (fins r' kk)
    | bk => cases hg
    | ct => cases hg
theorem fn_okV {P : Program} {w : World} {K : PySem.W.Frag} {mg : Str → Option Value} {base : Heap} {x qual : Str} {st : Stmt} {f : Addr} {fd : FuncData} {k : Nat} (N ps : List Str) (np nl : Nat) (kp : Nat → Bool) (body : FS) (g : List M → CR) (hnp : ps.length = np) (hnl : N.length = nl)
    (hg : g = runFn np nl kp body) (F : FunV K x qual st f fd) (S : FnScope N ps (defScope st))
    (hbody : ∀ (cdv : Value) (A : Around) (outer : List Env) (s : Shared) (H : Hp) (E : XK), RoomG k (A.deeper (envOfC qual (defScope st) s.heap.objs.size f cdv)) → DSs (cxOf CX0 P w K mg base N qual (defScope st) f cdv A outer s H E).nox kp body (defBody st)) :
    FnG P w K mg base (k + 1) f fd ps (spD (kg0 K mg) np g) := by
  subst hnp hnl hg
  exact fn_okV0 F S hbody
theorem fn_ok {P : Program} {w : World} {K : PySem.W.Frag} {mg : Str → Option Value} {base : Heap} {x qual : Str} {st : Stmt} {f : Addr} {fd : FuncData} {k : Nat} (N ps : List Str) (np nl : Nat) (kp : Nat → Bool) (body : FS) (g : List M → CR) (hnp : ps.length = np) (hnl : N.length = nl)
    (hg : g = runFn np nl kp body) (F : Fun K x qual st f fd) (S : FnScope N ps (defScope st))
    (hbody : ∀ (cdv : Value) (A : Around) (outer : List Env) (s : Shared) (H : Hp) (E : XK), RoomG k (A.deeper (envOfC qual (defScope st) s.heap.objs.size f cdv)) → DSs (cxOf CX0 P w K mg base N qual (defScope st) f cdv A outer s H E).nox kp body (defBody st)) :
    FnG P w K mg base (k + 1) f fd ps (spD (kg0 K mg) np g) :=
  fn_okV N ps np nl kp body g hnp hnl hg (toV F) S hbody

noncomputable def semR (K : KG) (g : D → D → Option M) : R2 := fun v u H Q => ∃ F x y m, Le F H ∧ View K H F v x ∧ View K H F u y ∧ g x y = some m ∧ Wish K H F m Q
theorem opD_of {X : Cx} {f : Value → Value → Sem Value} {g : D → D → Option M} (h : OpR X f (semR (kg X) g)) : OpD X f g := ⟨_, h, fun H F v u x y m Q l vx vy e w => ⟨F, x, y, m, l, vx, vy, e, w⟩⟩
section
variable {K : KG} {H F : Hp} {Q : VK}
theorem Wish.int {i : Int} (w : Wish K H F (.d (.int i)) Q) : Q (.int i) H := w.d _ _ rfl (.int i)
theorem Wish.bl {i : Bool} (w : Wish K H F (.d (.bl i)) Q) : Q (.bl i) H := w.d _ _ rfl (.bl i)
theorem Wish.str {i : Str} (w : Wish K H F (.d (.str i)) Q) : Q (.str i) H := w.d _ _ rfl (.str i)
theorem Wish.of_d {x : D} (h : ∀ v, RepD K F v x → Q v H) (hn : ∀ zs, x ≠ .tup zs) (ho : x ≠ .odk := by intro h; cases h) : Wish K H F (.d x) Q :=
  { d := fun y v e r => by cases e; exact h v r
    t := fun zs p vs e _ _ => by cases e; exact absurd rfl (hn zs)
    l := fun zs p vs e _ _ => by cases e
    k := fun ks ds p vs e _ _ _ => by cases e
    o := fun p e _ => by cases e; exact absurd rfl ho }
theorem wish_bl {b : Bool} (h : Q (.bl b) H) : Wish K H F (.d (.bl b)) Q := .of_d (fun v r => by cases r; exact h) fun zs e => by cases e
end

/-! ### arithmetic -/
noncomputable def mulOk (i j : Int) : Bool := decide (-(2 ^ 64) < i ∧ i < 2 ^ 64) || decide (-(2 ^ 64) < j ∧ j < 2 ^ 64)
noncomputable def divOk (j : Int) : Bool := decide (j ≠ 0 ∧ -(2 ^ 128) < j ∧ j < 2 ^ 128)
/-- a text so many times -/
noncomputable def repS (x : Str) (k : Nat) : Str := ⟨(List.replicate k x.cps).foldl (· ++ ·) #[]⟩
noncomputable def addD : D → D → Option M
  | .int i, .int j => some (.d (.int (i + j)))
  | .int i, .bl b => some (.d (.int (i + b2i b)))
  | .str x, .str y => if x.length + y.length ≤ line then some (.d (.str (x ++ y))) else none
  | .lst xs, .lst ys => if xs.length + ys.length ≤ line then some (.lst (xs ++ ys)) else none
  | .tup xs, .tup ys => if xs.length + ys.length ≤ line then some (.d (.tup (xs ++ ys))) else none
  | _, _ => none
noncomputable def subD : D → D → Option M
  | .int i, .int j => some (.d (.int (i - j)))
  | _, _ => none
noncomputable def mulD : D → D → Option M
  | .int i, .int j => if mulOk i j = true then some (.d (.int (i * j))) else none
  | .lst xs, .int k => if (-(2 ^ 63) ≤ k ∧ k < 2 ^ 63) ∧ xs.length * k.toNat ≤ line then some (.lst (List.replicate k.toNat xs).flatten) else none
  | .tup xs, .int k => if 0 ≤ k ∧ k ≤ 10000 ∧ xs ≠ [] ∧ xs.length ≤ 100 then some (.d (.tup (List.replicate k.toNat xs).flatten)) else none
  | .str x, .int k => if 0 ≤ k ∧ k ≤ 1000 ∧ x.length ≤ 1000 then some (.d (.str (repS x k.toNat))) else none
  | _, _ => none
noncomputable def fdivD : D → D → Option M
  | .int i, .int j => if divOk j = true then some (.d (.int (i.fdiv j))) else none
  | _, _ => none
noncomputable def modD : D → D → Option M
  | .int i, .int j => if j ≠ 0 then some (.d (.int (i.fmod j))) else none
  | _, _ => none
noncomputable def powD : D → D → Option M
  | .int i, .int j => if 0 ≤ j ∧ j ≤ 1000000 ∧ i.natAbs < 2 ^ 64 then some (.d (.int (i ^ j.toNat))) else none
  | _, _ => none
theorem RepDs.rep {K : KG} {F : Hp} {v : List V} {d : List D} (h : RepDs K F v d) : ∀ k : Nat, RepDs K F (List.replicate k v).flatten (List.replicate k d).flatten
  | 0 => .nil
  | k + 1 => by
    rw [List.replicate_succ, List.flatten_cons, List.replicate_succ, List.flatten_cons]
    exact h.append (RepDs.rep h k)
section
variable {X : Cx}
theorem Inv.rdl {pins : List (Addr × Obj)} {σ : St} {H : Hp} {s : Shared} {l : Addr} {xs : List V} (I : Inv X pins σ H s) (h : Rd H l (.lst xs)) : xs.length ≤ sizeLine ∧ ∃ (its : List Value) (n : Nat), Vals xs its ∧ xs.length = its.length ∧ s.heap.get? l = some { cls := .type "list", data := .seq its.toArray n } := by
  obtain ⟨z, its, n, r, e⟩ := h.ok I.hok
  exact ⟨z, its, n, r, r.length, e⟩
theorem op_catR : OpR X (binaryOp .Add) (fun x y H Q => ∃ l b xs zs, x = .ref l ∧ y = .ref b ∧ Rd H l (.lst xs) ∧ Rd H b (.lst zs) ∧ xs.length + zs.length ≤ sizeLine ∧ ∀ p, H p = none → Q (.ref p) (upd H p (.lst (xs ++ zs)))) := by
  intro pins s σ H x y v u Q I rx ry h
  obtain ⟨l, b, xs, zs, rfl, rfl, hH, hB, hz, q⟩ := h
  cases rx
  cases ry
  obtain ⟨z, its, n, r, hl, e⟩ := Inv.rdl I hH
  obtain ⟨z2, its2, n2, r2, hl2, e2⟩ := Inv.rdl I hB
  refine PySem.P.add_list e e2 ?_ (by rw [List.size_toArray, List.size_toArray]; omega)
  have ea : its.toArray ++ its2.toArray = (its ++ its2).toArray := by simp
  rw [ea]
  exact ⟨.ref _, _, I.lnew (t' := s.toks) (r.append r2) (by rw [List.length_append]; omega), rfl, q _ I.fresh⟩
theorem op_fdivA : OpR X (binaryOp .FloorDiv) (rI (fun _ j => divOk j = true) fun i j => .int (i.fdiv j)) := opI fun i j _ _ _ _ _ hc q => by
  have h := of_decide_eq_true hc
  exact floordiv_int h.1 q (.inl (PyProof.noPylong_of_log2 (Nat.lt_of_lt_of_le (PySem.Flt.log2_lt_of (k := 128) (by decide) (by omega)) (by decide))))
theorem mulOk_c {i j : Int} (h : mulOk i j = true) : CMul i j := by
  unfold mulOk at h
  rw [Bool.or_eq_true] at h
  rcases h with h | h
  · exact .inl (of_decide_eq_true h)
  · exact .inr (of_decide_eq_true h)
theorem od_add : OpD X (binaryOp .Add) addD := opD_of (by
  intro pins s σ H x y v u Q I rx ry ⟨F, a, b, m, l, va, vb, e, w⟩
  cases a with
  | int i =>
    obtain rfl := va.int
    cases b with
    | int j => obtain rfl := vb.int; cases e; exact op_add pins s σ H _ _ v u Q I rx ry ⟨i, j, rfl, rfl, w.int⟩
    | bl j => obtain rfl := vb.bl; cases e; exact op_add_ib pins s σ H _ _ v u Q I rx ry ⟨i, j, rfl, rfl, w.int⟩
    | _ => cases e
  | str i =>
    obtain rfl := va.str
    cases b with
    | str j =>
      obtain rfl := vb.str
      have e : (if i.length + j.length ≤ line then some (M.d (.str (i ++ j))) else none) = some m := e
      split at e
      · rename_i hz; cases e; exact op_add_str pins s σ H _ _ v u Q I rx ry ⟨i, j, rfl, rfl, by rw [← line_eq]; exact hz, w.str⟩
      · cases e
    | _ => cases e
  | lst i =>
    obtain ⟨a1, vs, rfl, h1, r1⟩ := va.list l
    cases b with
    | lst j =>
      obtain ⟨a2, vs2, rfl, h2, r2⟩ := vb.list l
      have e : (if i.length + j.length ≤ line then some (M.lst (i ++ j)) else none) = some m := e
      split at e
      · rename_i hz
        cases e
        exact op_catR pins s σ H _ _ v u Q I rx ry ⟨a1, a2, vs, vs2, rfl, rfl, h1, h2, by rw [r1.len, r2.len, ← line_eq]; exact hz, fun p hp => w.l _ p _ rfl hp (r1.append r2)⟩
      · cases e
    | _ => cases e
  | tup i =>
    obtain ⟨a1, vs, rfl, h1, r1⟩ := va.tuple l
    cases b with
    | tup j =>
      obtain ⟨a2, vs2, rfl, h2, r2⟩ := vb.tuple l
      have e : (if i.length + j.length ≤ line then some (M.d (.tup (i ++ j))) else none) = some m := e
      split at e
      · rename_i hz
        cases e
        refine op_catA pins s σ H _ _ v u Q I rx ry ⟨a1, a2, vs, vs2, rfl, rfl, h1, h2, by rw [r1.len, r2.len, ← line_eq]; exact hz, fun hv => ?_, fun _ hv => ?_, fun _ _ p hp => w.t _ p _ rfl hp (r1.append r2)⟩
        · subst hv
          cases r1
          cases vb with
          | fz h => exact w.d _ _ rfl h
        · subst hv
          cases r2
          cases va with
          | fz h => exact w.d _ _ rfl (by rw [List.append_nil]; exact h)
      · cases e
    | _ => cases e
  | _ => cases e)
theorem od_sub : OpD X (binaryOp .Sub) subD := opD_of (by
  intro pins s σ H x y v u Q I rx ry ⟨F, a, b, m, l, va, vb, e, w⟩
  cases a with
  | int i =>
    obtain rfl := va.int
    cases b with
    | int j => obtain rfl := vb.int; cases e; exact op_sub pins s σ H _ _ v u Q I rx ry ⟨i, j, rfl, rfl, w.int⟩
    | _ => cases e
  | _ => cases e)
theorem op_repR : OpR X (binaryOp .Mult) (fun x y H Q => ∃ l k xs, x = .ref l ∧ y = .int k ∧ Rd H l (.lst xs) ∧ -(2 ^ 63) ≤ k ∧ k < 2 ^ 63 ∧ xs.length * k.toNat ≤ sizeLine ∧
  ∀ p, H p = none → Q (.ref p) (upd H p (.lst (List.replicate k.toNat xs).flatten))) := by
  intro pins s σ H x y v u Q I rx ry h
  obtain ⟨l, k, xs, rfl, rfl, hH, h1, h2, hz, q⟩ := h
  cases rx
  obtain ⟨t, rfl⟩ := ry
  obtain ⟨z, its, n, r, hl, e⟩ := Inv.rdl I hH
  have hlen : its.toArray.size * k.toNat ≤ sizeLine := by rw [List.size_toArray, ← hl]; exact hz
  have hcap : ¬ its.toArray.size * k.toNat > (2 ^ 63 - 1) / 8 := by
    have : (sizeLine : Nat) ≤ (2 ^ 63 - 1) / 8 := by decide
    omega
  have hfit : ¬ (!Builtin.List.listFitsIndex k) = true := by
    rw [fitsIndex_both h1 h2]
    exact Bool.false_ne_true
  have hlong : ¬ Builtin.List.listTooLong (its.toArray.size * k.toNat) = true := by
    rw [notLongL hlen]
    exact Bool.false_ne_true
  have hnew : List.foldl (fun x1 x2 => x1 ++ x2) #[] (List.replicate (if its.toArray.isEmpty = true then 0 else k.toNat) its.toArray) = (List.replicate k.toNat its).flatten.toArray := by
    have f0 : ∀ m : Nat, List.foldl (fun x1 x2 => x1 ++ x2) #[] (List.replicate m its.toArray) = (List.replicate m its).flatten.toArray := fun m => by
      have := foldl_rep its m []
      rw [List.nil_append] at this
      exact this
    rw [f0]
    cases its with
    | nil => simp
    | cons a r' => rw [if_neg (by simp)]
  refine wpAny_binaryOp_repeat_ref (T := "list") (U := "int") (by decide) ⟨_, e, rfl⟩ (fun s' => typeIs_int s' k t) noFill_list_mul PySem.F.fills_int_mul PySem.F.slot_int_rmul repeat_list PySem.F.slot_int_index.lookup
    (call_meets PySem.F.slot_int_rmul (typeIs_int s k t) PySem.F.entry_int_rmul (PySem.F.args_int_rmul_2 _ _) (int___rmul___int_list k t l its.toArray n)
      ⟨e, rfl, ⟨_, e, rfl⟩, call_meets PySem.F.slot_list_mul ⟨_, e, rfl⟩ PySem.F.entry_list_mul (PySem.F.args_list_mul_2 _ _) (AutoListH.list___mul___list_int_3 l its.toArray n k t hfit hcap hlong) ⟨e, ?_⟩⟩)
  rw [hnew]
  exact ⟨.ref _, _, I.lnew (t' := s.toks) (r.rep k.toNat) (by rw [PyProof.Rows.lm_len_rep_flat, Nat.mul_comm]; exact hz), rfl, q _ I.fresh⟩
theorem tuple_mulW0 (l : Addr) (items : Array Value) (n : Nat) (dd : Option Addr) (sl : Array (Option Value)) (x : Int) (u : Tok) (c0 : (decide (x < -(2 ^ 63)) || decide (x ≥ 2 ^ 63)) = false) (c1 : (items.isEmpty || x == 1) = false) (c2 : (decide (x ≤ 0) || items.isEmpty) = true) :
    Meets (Builtin.«tuple.__mul__» ⟨[.ref l, .int x u], []⟩) (fun _ R s => s.heap.get? l = some { cls := .type "tuple", dict := dd, data := .seq items n, slots := sl } ∧
      R (.ok (.ret (Value.ref s.heap.objs.size))) { s with heap := s.heap.push { cls := Value.type "tuple", data := Data.seq #[] }, toks := s.toks }) :=
  .of_wp fun prog w A R s h => by
    obtain ⟨hp, g, d, tk, os⟩ := s
    obtain ⟨hl, h⟩ := h
    have f1 := AutoSeq1.idx_int
    wp_walk using wpAny_loadPart' hl
    repeat (first
      | (refine wpAny_ite_false (decide_eq_false (by rw [c0]; exact Bool.false_ne_true)) ?_; wp_walk using wpAny_loadPart' hl)
      | (refine wpAny_ite_false (decide_eq_false (by rw [c1]; exact Bool.false_ne_true)) ?_; wp_walk using wpAny_loadPart' hl)
      | (refine wpAny_ite_true (decide_eq_true c2) ?_; wp_walk using wpAny_loadPart' hl))
    exact ⟨_, rfl, h⟩
theorem tuple_mulW1 (l : Addr) (items : Array Value) (n : Nat) (dd : Option Addr) (sl : Array (Option Value)) (x : Int) (u : Tok) (c0 : (decide (x < -(2 ^ 63)) || decide (x ≥ 2 ^ 63)) = false) (c1 : (items.isEmpty || x == 1) = true) :
    Meets (Builtin.«tuple.__mul__» ⟨[.ref l, .int x u], []⟩) (fun _ R s => s.heap.get? l = some { cls := .type "tuple", dict := dd, data := .seq items n, slots := sl } ∧
      R (.ok (.ret (Value.ref l))) { s with heap := s.heap, toks := s.toks }) :=
  .of_wp fun prog w A R s h => by
    obtain ⟨hp, g, d, tk, os⟩ := s
    obtain ⟨hl, h⟩ := h
    have f1 := AutoSeq1.idx_int
    wp_walk using wpAny_loadPart' hl
    repeat (first
      | (refine wpAny_ite_false (decide_eq_false (by rw [c0]; exact Bool.false_ne_true)) ?_; wp_walk using wpAny_loadPart' hl)
      | (refine wpAny_ite_true (decide_eq_true c1) ?_; wp_walk using wpAny_loadPart' hl))
    exact ⟨_, rfl, h⟩
theorem op_repTB : OpR X (binaryOp .Mult) (fun x y H Q => ∃ l k xs, x = .ref l ∧ y = .int k ∧ SqT X.K H l xs ∧ xs ≠ [] ∧ 2 ≤ k ∧ k ≤ 10000 ∧ xs.length ≤ 100 ∧ ∀ p, H p = none → Q (.ref p) (upd H p (.tup (List.replicate k.toNat xs).flatten))) := by
  intro pins s σ H x y v u Q I rx ry h
  obtain ⟨l, k, xs, rfl, rfl, hT, hne, h1, h2, hz, q⟩ := h
  cases rx
  obtain ⟨t, rfl⟩ := ry
  obtain ⟨its, r, ⟨⟨cls, dd, data, sl⟩, ho, hc, n, hd⟩, hs⟩ := I.tuple hT
  simp only at hc hd
  subst hc hd
  have hle : its.length = xs.length := r.length.symm
  have hn : its ≠ [] := fun e => hne (by
    rw [e] at hle
    exact List.eq_nil_of_length_eq_zero hle.symm)
  have hi : its.toArray.isEmpty = false := by
    cases its with
    | nil => exact absurd rfl hn
    | cons a b => rfl
  have hsz0 : its.toArray.size = xs.length := by rw [List.size_toArray, hle]
  have hm : ((its.toArray.size : Nat) : Int) * k ≤ 1000000 := by
    rw [hsz0]
    have a1 : ((xs.length : Nat) : Int) * k ≤ 100 * k := Int.mul_le_mul_of_nonneg_right (by omega) (by omega)
    omega
  have flen : (List.replicate k.toNat its).flatten.length ≤ sizeLine := by
    rw [PyProof.Rows.lm_len_rep_flat, hle, sizeLine_eq]
    have a1 : k.toNat * xs.length ≤ 10000 * 100 := Nat.mul_le_mul (by omega) hz
    omega
  have c0 : (decide (k < -(2 ^ 63)) || decide (k ≥ 2 ^ 63)) = false := by
    rw [decide_eq_false (by omega), decide_eq_false (by omega)] <;> rfl
  have c1 : (its.toArray.isEmpty || k == 1) = false := by
    rw [hi, Bool.false_or]
    exact beq_eq_false_iff_ne.mpr (by omega)
  have c2 : (decide (k ≤ 0) || its.toArray.isEmpty) = false := by
    rw [hi, Bool.or_false]
    exact decide_eq_false (by omega)
  have c4 : Builtin.Tuple.tupleTooMany (((its.toArray.size : Nat) : Int) * k) = false := by
    unfold Builtin.Tuple.tupleTooMany
    rw [sizeLine_eq]
    exact decide_eq_false (by omega)
  refine wpAny_binaryOp_repeat_ref (T := "tuple") (U := "int") (by decide) ⟨_, ho, rfl⟩ (fun s' => typeIs_int s' k t) noFill_tuple_mul PySem.F.fills_int_mul PySem.F.slot_int_rmul repeat_tuple PySem.F.slot_int_index.lookup
    (call_meets PySem.F.slot_int_rmul (typeIs_int s k t) PySem.F.entry_int_rmul (PySem.F.args_int_rmul_2 _ _) (int_rmul_tuple k t l its.toArray n dd sl)
      ⟨ho, rfl, ⟨_, ho, rfl⟩, call_meets PySem.F.slot_tuple_mul ⟨_, ho, rfl⟩ PySem.F.entry_tuple_mul (PySem.F.args_tuple_mul_2 _ _) (tuple_mulW l its.toArray n dd sl k t c0 c1 c2 (by omega) c4 (by rw [size_rep, List.size_toArray]; exact flen)) ⟨ho, ?_⟩⟩)
  rw [size_rep]
  refine ⟨.ref s.heap.objs.size, _, I.laid (t' := s.toks) (o := .tup (List.replicate k.toNat xs).flatten) (fun b ob q => Heap.get?_push_of_some _ q) (Nat.le_refl _) ?_, rfl, q _ (I.hok.fresh (Nat.le_refl _))⟩
  exact ⟨by rw [PyProof.Rows.lm_len_rep_flat, sizeLine_eq]; have a1 : k.toNat * xs.length ≤ 10000 * 100 := Nat.mul_le_mul (by omega) hz; omega, _, r.rep k.toNat, IsTup.new _ _⟩
theorem op_repTA : OpR X (binaryOp .Mult) (fun x y H Q => ∃ l k xs, x = .ref l ∧ y = .int k ∧ SqT X.K H l xs ∧ xs ≠ [] ∧ 0 ≤ k ∧ k ≤ 10000 ∧ xs.length ≤ 100 ∧ (k = 1 → Q (.ref l) H) ∧ (k ≠ 1 → ∀ p, H p = none → Q (.ref p) (upd H p (.tup (List.replicate k.toNat xs).flatten)))) := by
  intro pins s σ H x y v u Q I rx ry h
  obtain ⟨l, k, xs, rfl, rfl, hT, hne, h1, h2, hz, q1, q⟩ := h
  by_cases h2k : 2 ≤ k
  · exact op_repTB pins s σ H _ _ v u Q I rx ry ⟨l, k, xs, rfl, rfl, hT, hne, h2k, h2, hz, q (by omega)⟩
  cases rx
  obtain ⟨t, rfl⟩ := ry
  obtain ⟨its, r, ⟨⟨cls, dd, data, sl⟩, ho, hc, n, hd⟩, hs⟩ := I.tuple hT
  simp only at hc hd
  subst hc hd
  have hle : its.length = xs.length := r.length.symm
  have hn : its ≠ [] := fun e => hne (by
    rw [e] at hle
    exact List.eq_nil_of_length_eq_zero hle.symm)
  have hi : its.toArray.isEmpty = false := by
    cases its with
    | nil => exact absurd rfl hn
    | cons a b => rfl
  have c0 : (decide (k < -(2 ^ 63)) || decide (k ≥ 2 ^ 63)) = false := by
    rw [decide_eq_false (by omega), decide_eq_false (by omega)] <;> rfl
  by_cases h1k : k = 1
  · refine wpAny_binaryOp_repeat_ref (T := "tuple") (U := "int") (by decide) ⟨_, ho, rfl⟩ (fun s' => typeIs_int s' k t) noFill_tuple_mul PySem.F.fills_int_mul PySem.F.slot_int_rmul repeat_tuple PySem.F.slot_int_index.lookup
      (call_meets PySem.F.slot_int_rmul (typeIs_int s k t) PySem.F.entry_int_rmul (PySem.F.args_int_rmul_2 _ _) (int_rmul_tuple k t l its.toArray n dd sl)
        ⟨ho, rfl, ⟨_, ho, rfl⟩, call_meets PySem.F.slot_tuple_mul ⟨_, ho, rfl⟩ PySem.F.entry_tuple_mul (PySem.F.args_tuple_mul_2 _ _) (tuple_mulW1 l its.toArray n dd sl k t c0 (by rw [h1k]; simp)) ⟨ho, ?_⟩⟩)
    exact ⟨.ref l, H, I, rfl, q1 h1k⟩
  · have h0 : k = 0 := by omega
    subst h0
    have c1 : (its.toArray.isEmpty || (0 : Int) == 1) = false := by rw [hi]; rfl
    refine wpAny_binaryOp_repeat_ref (T := "tuple") (U := "int") (by decide) ⟨_, ho, rfl⟩ (fun s' => typeIs_int s' 0 t) noFill_tuple_mul PySem.F.fills_int_mul PySem.F.slot_int_rmul repeat_tuple PySem.F.slot_int_index.lookup
      (call_meets PySem.F.slot_int_rmul (typeIs_int s 0 t) PySem.F.entry_int_rmul (PySem.F.args_int_rmul_2 _ _) (int_rmul_tuple 0 t l its.toArray n dd sl)
        ⟨ho, rfl, ⟨_, ho, rfl⟩, call_meets PySem.F.slot_tuple_mul ⟨_, ho, rfl⟩ PySem.F.entry_tuple_mul (PySem.F.args_tuple_mul_2 _ _) (tuple_mulW0 l its.toArray n dd sl 0 t c0 c1 (by simp)) ⟨ho, ?_⟩⟩)
    refine ⟨.ref s.heap.objs.size, _, I.laid (t' := s.toks) (o := .tup []) (fun b ob q => Heap.get?_push_of_some _ q) (Nat.le_refl _) ?_, rfl, q (by decide) _ (I.hok.fresh (Nat.le_refl _))⟩
    exact ⟨Nat.zero_le _, [], .nil, IsTup.new _ _⟩
theorem repS_1 (x : Str) : repS x 1 = x := by
  show Str.mk (#[] ++ x.cps) = x
  rw [Array.empty_append]
theorem repS_fold (k : Nat) (a b : Array Nat) (h : b = #[]) : (List.replicate k b).foldl (· ++ ·) a = a := by
  subst h
  induction k with
  | zero => rfl
  | succ k ih => rw [List.replicate_succ, List.foldl_cons, Array.append_empty, ih]
theorem repS_e (x : Str) (h : x.length = 0) (k : Nat) : repS x k = x := by
  have e : x.cps = #[] := Array.eq_empty_of_size_eq_zero h
  show Str.mk ((List.replicate k x.cps).foldl (· ++ ·) #[]) = x
  rw [repS_fold _ _ _ e]
  cases x
  exact congrArg _ e.symm
theorem repS_size (x : Array Nat) : ∀ (k : Nat) (a : Array Nat), ((List.replicate k x).foldl (· ++ ·) a).size = a.size + k * x.size
  | 0, a => by simp
  | k + 1, a => by rw [List.replicate_succ, List.foldl_cons, repS_size x k, Array.size_append, Nat.succ_mul]; omega
theorem repS_len (x : Str) (k : Nat) : (repS x k).length = k * x.length := by
  show ((List.replicate k x.cps).foldl (· ++ ·) #[]).size = k * x.cps.size
  rw [repS_size]
  simp
theorem op_mul_str : OpR X (binaryOp .Mult) (fun a b H Q => ∃ x k, a = .str x ∧ b = .int k ∧ 0 ≤ k ∧ k ≤ 1000 ∧ x.length ≤ 1000 ∧ Q (.str (repS x k.toNat)) H) := by
  intro pins s σ H a b v u Q I ra rb ⟨x, k, ea, eb, h0, h1, hl, q⟩
  subst ea eb
  obtain ⟨t, rfl⟩ := ra
  obtain ⟨t2, rfl⟩ := rb
  have hml : x.length * k.toNat ≤ 1000 * 1000 := Nat.mul_le_mul hl (by omega)
  refine PySem.P.mul_str (by rw [decide_eq_false (by omega), decide_eq_false (by omega)]; rfl) (fun _ _ => ?_) (fun _ _ => ?_) ?_
  · have : (2 ^ 63 - 1) / k ≥ (2 ^ 63 - 1) / 1000 := by
      by_cases hk : k = 0
      · omega
      · exact (Int.le_ediv_iff_mul_le (by omega)).mpr (by omega)
    omega
  · show decide _ = false
    rw [sizeLine_eq]
    exact decide_eq_false (by omega)
  · by_cases c : k < 1
    · rw [if_pos c]
      have : k = 0 := by omega
      subst this
      exact ⟨by decide, .str (repS x 0), H, I.kept (t' := s.toks + 1) (fun _ _ z => z), ⟨_, rfl⟩, q⟩
    · rw [if_neg c]
      split
      · rename_i hc
        have : repS x k.toNat = x := by
          rw [Bool.or_eq_true] at hc
          rcases hc with hc | hc
          · have : k = 1 := by simpa using hc
            subst this
            exact repS_1 x
          · exact repS_e x (by simpa using hc) _
        rw [this] at q
        exact ⟨.str x, H, I, ⟨_, rfl⟩, q⟩
      · refine ⟨?_, .str (repS x k.toNat), H, I.kept (t' := s.toks + 1) (fun _ _ z => z), ⟨_, rfl⟩, q⟩
        show (repS x k.toNat).length ≤ sizeLine
        rw [repS_len, sizeLine_eq, Nat.mul_comm]
        omega
theorem od_mul : OpD X (binaryOp .Mult) mulD := opD_of (by
  intro pins s σ H x y v u Q I rx ry ⟨F, a, b, m, l, va, vb, e, w⟩
  cases a with
  | int i =>
    obtain rfl := va.int
    cases b with
    | int j =>
      obtain rfl := vb.int
      have e : (if mulOk i j = true then some (M.d (.int (i * j))) else none) = some m := e
      split at e
      · rename_i hz; cases e; exact op_mul pins s σ H _ _ v u Q I rx ry ⟨i, j, rfl, rfl, mulOk_c hz, w.int⟩
      · cases e
    | _ => cases e
  | lst i =>
    obtain ⟨a1, vs, rfl, h1, r1⟩ := va.list l
    cases b with
    | int k =>
      obtain rfl := vb.int
      have e : (if (-(2 ^ 63) ≤ k ∧ k < 2 ^ 63) ∧ i.length * k.toNat ≤ line then some (M.lst (List.replicate k.toNat i).flatten) else none) = some m := e
      split at e
      · rename_i hz
        cases e
        exact op_repR pins s σ H _ _ v u Q I rx ry ⟨a1, k, vs, rfl, rfl, h1, hz.1.1, hz.1.2, by rw [r1.len, ← line_eq]; exact hz.2, fun p hp => w.l _ p _ rfl hp (r1.rep _)⟩
      · cases e
    | _ => cases e
  | tup i =>
    cases b with
    | int k =>
      obtain rfl := vb.int
      have e : (if 0 ≤ k ∧ k ≤ 10000 ∧ i ≠ [] ∧ i.length ≤ 100 then some (M.d (.tup (List.replicate k.toNat i).flatten)) else none) = some m := e
      split at e
      · rename_i hz
        cases e
        have hne := hz.2.2.1
        obtain ⟨a1, vs, ev, h1, r1⟩ := va.tuple l
        subst ev
        refine op_repTA pins s σ H _ _ v u Q I rx ry ⟨a1, k, vs, rfl, rfl, h1, ?_, hz.1, hz.2.1, by rw [r1.len]; exact hz.2.2.2, fun hk => ?_, fun _ p hp => w.t _ p _ rfl hp (r1.rep _)⟩
        · intro z
          subst z
          cases r1
          exact hne rfl
        · subst hk
          cases va with
          | fz h => exact w.d _ _ rfl (by simpa using h)
      · cases e
    | _ => cases e
  | str i =>
    cases b with
    | int k =>
      obtain rfl := vb.int
      obtain rfl := va.str
      have e : (if 0 ≤ k ∧ k ≤ 1000 ∧ i.length ≤ 1000 then some (M.d (.str (repS i k.toNat))) else none) = some m := e
      split at e
      · rename_i hz
        cases e
        exact op_mul_str pins s σ H _ _ v u Q I rx ry ⟨i, k, rfl, rfl, hz.1, hz.2.1, hz.2.2, w.str⟩
      · cases e
    | _ => cases e
  | _ => cases e)
theorem od_fdiv : OpD X (binaryOp .FloorDiv) fdivD := opD_of (by
  intro pins s σ H x y v u Q I rx ry ⟨F, a, b, m, l, va, vb, e, w⟩
  cases a with
  | int i =>
    obtain rfl := va.int
    cases b with
    | int j =>
      obtain rfl := vb.int
      have e : (if divOk j = true then some (M.d (.int (i.fdiv j))) else none) = some m := e
      split at e
      · rename_i hz; cases e; exact op_fdivA pins s σ H _ _ v u Q I rx ry ⟨i, j, rfl, rfl, hz, w.int⟩
      · cases e
    | _ => cases e
  | _ => cases e)
theorem od_mod : OpD X (binaryOp .Mod) modD := opD_of (by
  intro pins s σ H x y v u Q I rx ry ⟨F, a, b, m, l, va, vb, e, w⟩
  cases a with
  | int i =>
    obtain rfl := va.int
    cases b with
    | int j =>
      obtain rfl := vb.int
      have e : (if j ≠ 0 then some (M.d (.int (i.fmod j))) else none) = some m := e
      split at e
      · rename_i hz; cases e; exact op_modN pins s σ H _ _ v u Q I rx ry ⟨i, j, rfl, rfl, hz, w.int⟩
      · cases e
    | _ => cases e
  | _ => cases e)
theorem od_pow : OpD X (binaryOp .Pow) powD := opD_of (by
  intro pins s σ H x y v u Q I rx ry ⟨F, a, b, m, l, va, vb, e, w⟩
  cases a with
  | int i =>
    obtain rfl := va.int
    cases b with
    | int j =>
      obtain rfl := vb.int
      have e : (if 0 ≤ j ∧ j ≤ 1000000 ∧ i.natAbs < 2 ^ 64 then some (M.d (.int (i ^ j.toNat))) else none) = some m := e
      split at e
      · rename_i hz; cases e; exact op_pow pins s σ H _ _ v u Q I rx ry ⟨i, j, rfl, rfl, hz, w.int⟩
      · cases e
    | _ => cases e
  | _ => cases e)
/-- -a -/
noncomputable def mNeg (f : FE) : FM := fun S => (f S).bind fun o S => match o.get S with
  | some (.int i) => .ok (.d (.int (-i))) S
  | _ => .no
theorem dm_neg {e : Expr} {pos : Pos} {f : FE} (h : DE X f e) : DM X (mNeg f) (.UnaryOp .USub e pos) := PE.imp (pe_un un_neg h) fun σ H Q ⟨F, O, S, m, S', r, hf, k⟩ => by
  obtain ⟨o, S1, h1, h2⟩ := R.bind_ok hf
  refine ⟨F, O, S, o, S1, r, h1, fun v H1 F1 O1 st1 r1 ro => ?_⟩
  cases eg : o.get S1 with
  | none => rw [eg] at h2; cases h2
  | some d =>
    rw [eg] at h2
    cases d with
    | int i =>
      cases h2
      obtain rfl := (r1.view ro eg).int
      exact ⟨i, rfl, k _ H1 F1 O1 st1 r1 (.int _)⟩
    | _ => cases h2


end
/-! ### comparisons -/
mutual
noncomputable def D.py : D → PyData
  | .non => .none
  | .bl b => .bool b
  | .int i => .int i
  | .str x => .str x
  | .tup xs => .tuple (D.pys xs)
  | .lst xs => .list (D.pys xs)
  | _ => .none
noncomputable def D.pys : List D → List PyData
  | [] => []
  | x :: xs => D.py x :: D.pys xs
end
mutual
noncomputable def D.eqb : D → D → Bool
  | .non, y => match y with
    | .non => true
    | _ => false
  | .bl a, y => match y with
    | .bl b => a == b
    | .int j => (if a then 1 else 0) == j
    | _ => false
  | .int i, y => match y with
    | .bl b => i == (if b then 1 else 0)
    | .int j => i == j
    | _ => false
  | .str x, y => match y with
    | .str z => x == z
    | _ => false
  | .lst xs, y => match y with
    | .lst ys => D.eqbs xs ys
    | _ => false
  | .tup xs, y => match y with
    | .tup ys => D.eqbs xs ys
    | _ => false
  | _, _ => false
noncomputable def D.eqbs : List D → List D → Bool
  | [], ys => match ys with
    | [] => true
    | _ :: _ => false
  | x :: xs, ys => match ys with
    | [] => false
    | y :: ys => D.eqb x y && D.eqbs xs ys
end
mutual
/-- data that == goes through -/
noncomputable def D.pl : D → Bool
  | .non => true
  | .bl _ => true
  | .int _ => true
  | .str _ => true
  | .tup xs => D.pls xs
  | .lst xs => D.pls xs
  | _ => false
noncomputable def D.pls : List D → Bool
  | [] => true
  | x :: xs => D.pl x && D.pls xs
end
mutual
noncomputable def D.dep : D → Nat
  | .tup xs => D.deps xs + 1
  | .lst xs => D.deps xs + 1
  | _ => 0
noncomputable def D.deps : List D → Nat
  | [] => 0
  | x :: xs => max (D.dep x) (D.deps xs)
end
mutual
theorem D.py_dep : ∀ d : D, d.pl = true → d.py.depth = d.dep
  | .non, _ => rfl
  | .bl _, _ => rfl
  | .int _, _ => rfl
  | .str _, _ => rfl
  | .tup xs, h => by
    show PyData.depthAll (D.pys xs) + 1 = D.deps xs + 1
    rw [D.pys_dep xs h]
  | .lst xs, h => by
    show PyData.depthAll (D.pys xs) + 1 = D.deps xs + 1
    rw [D.pys_dep xs h]
theorem D.pys_dep : ∀ ds : List D, D.pls ds = true → PyData.depthAll (D.pys ds) = D.deps ds
  | [], _ => rfl
  | x :: xs, h => by
    have h : (D.pl x && D.pls xs) = true := h
    rw [Bool.and_eq_true] at h
    show max (D.py x).depth (PyData.depthAll (D.pys xs)) = max (D.dep x) (D.deps xs)
    rw [D.py_dep x h.1, D.pys_dep xs h.2]
end
mutual
theorem D.py_plain : ∀ d : D, d.pl = true → d.py.plain = true
  | .non, _ => rfl
  | .bl _, _ => rfl
  | .int _, _ => rfl
  | .str _, _ => rfl
  | .tup xs, h => D.pys_plain xs h
  | .lst xs, h => D.pys_plain xs h
theorem D.pys_plain : ∀ ds : List D, D.pls ds = true → PyData.plainAll (D.pys ds) = true
  | [], _ => rfl
  | x :: xs, h => by
    have h : (D.pl x && D.pls xs) = true := h
    rw [Bool.and_eq_true] at h
    show ((D.py x).plain && PyData.plainAll (D.pys xs)) = true
    rw [D.py_plain x h.1, D.pys_plain xs h.2]
    rfl
end
mutual
theorem D.py_eqv : ∀ a b : D, a.pl = true → b.pl = true → PyData.eqv a.py b.py = D.eqb a b
  | .non, b, _, hb => by cases b <;> first | rfl | cases hb
  | .bl _, b, _, hb => by cases b <;> first | rfl | cases hb
  | .int _, b, _, hb => by cases b <;> first | rfl | cases hb
  | .str _, b, _, hb => by cases b <;> first | rfl | cases hb
  | .tup xs, b, ha, hb => by
    cases b with
    | tup ys => exact D.pys_eqv xs ys ha hb
    | _ => first | rfl | cases hb
  | .lst xs, b, ha, hb => by
    cases b with
    | lst ys => exact D.pys_eqv xs ys ha hb
    | _ => first | rfl | cases hb
theorem D.pys_eqv : ∀ a b : List D, D.pls a = true → D.pls b = true → PyData.eqvAll (D.pys a) (D.pys b) = D.eqbs a b
  | [], [], _, _ => rfl
  | [], _ :: _, _, _ => rfl
  | _ :: _, [], _, _ => rfl
  | x :: xs, y :: ys, ha, hb => by
    have ha : (D.pl x && D.pls xs) = true := ha
    have hb : (D.pl y && D.pls ys) = true := hb
    rw [Bool.and_eq_true] at ha hb
    show (PyData.eqv (D.py x) (D.py y) && PyData.eqvAll (D.pys xs) (D.pys ys)) = (D.eqb x y && D.eqbs xs ys)
    rw [D.py_eqv x y ha.1 hb.1, D.pys_eqv xs ys ha.2 hb.2]
end
mutual
theorem RepD.dpA {K : KG} {H F : Hp} (l : Le F H) : ∀ (d : D) (v : V), d.pl = true → RepD K F v d → Dp K H v d.py
  | .non, _, _, r => by cases r; exact .non
  | .bl _, _, _, r => by cases r; exact .bl _
  | .int _, _, _, r => by cases r; exact .int _
  | .str _, _, _, r => by cases r; exact .str _
  | .tup xs, _, h, r => by
    cases r with
    | tup hs r => exact .tup (l.st hs) (RepD.dpAs l xs _ h r)
  | .lst xs, _, h, r => by
    cases r with
    | lst hs r => exact .lst (.inl (l.rd hs)) (RepD.dpAs l xs _ h r)
  | .ty _, _, h, _ => by cases h
  | .scr _, _, h, _ => by cases h
  | .dk _, _, h, _ => by cases h
  | .dt _, _, h, _ => by cases h
  | .obj _ _, _, h, _ => by cases h
theorem RepD.dpAs {K : KG} {H F : Hp} (l : Le F H) : ∀ (d : List D) (v : List V), D.pls d = true → RepDs K F v d → DpAll K H v (D.pys d)
  | [], _, _, r => by cases r; exact .nil
  | x :: xs, _, h, r => by
    cases r with
    | cons a r =>
      have h : (D.pl x && D.pls xs) = true := h
      rw [Bool.and_eq_true] at h
      exact .cons (RepD.dpA l x _ h.1 a) (RepD.dpAs l xs _ h.2 r)
end
theorem RepD.dp {K : KG} {H F : Hp} (l : Le F H) : ∀ {d : D} {v : V}, d.pl = true → RepD K F v d → Dp K H v d.py := fun {d v} => RepD.dpA l d v
theorem RepDs.dps {K : KG} {H F : Hp} (l : Le F H) : ∀ {d : List D} {v : List V}, D.pls d = true → RepDs K F v d → DpAll K H v (D.pys d) := fun {d v} => RepD.dpAs l d v
theorem View.dp {K : KG} {H F : Hp} {v : V} {d : D} (l : Le F H) (h : d.pl = true) (w : View K H F v d) : Dp K H v d.py := by
  cases w with
  | fz r => exact r.dp l h
  | lst hh r => exact .lst (.inl (.inl hh)) (r.dps l h)
  | dk _ _ _ => cases h
  | dt _ _ _ => cases h
noncomputable def eqOk (a b : D) : Bool := a.pl && b.pl && decide (min a.dep b.dep ≤ 190)
noncomputable def eqD (a b : D) : Option M := if eqOk a b = true then some (.d (.bl (D.eqb a b))) else none
noncomputable def neD2 : D → D → Option M
  | .lst (_ :: _), .lst [] => some (.d (.bl true))
  | _, _ => none
noncomputable def neD (a b : D) : Option M := if eqOk a b = true then some (.d (.bl (!D.eqb a b))) else neD2 a b
theorem eqOk_of {a b : D} (h : eqOk a b = true) : a.pl = true ∧ b.pl = true ∧ min a.dep b.dep ≤ 190 := by
  unfold eqOk at h
  rw [Bool.and_eq_true, Bool.and_eq_true] at h
  exact ⟨h.1.1, h.1.2, of_decide_eq_true h.2⟩
noncomputable def strIn (x y : Str) : Bool := !(Builtin.Str.occurrences y x 0 y.length 1).isEmpty
noncomputable def inOk (a : D) (xs : List D) : Bool := a.pl && D.pls xs && decide (min a.dep (D.deps xs) ≤ 190)
noncomputable def inD : D → D → Option M
  | a, .lst xs => if inOk a xs = true then some (.d (.bl (xs.any fun y => D.eqb y a))) else none
  | a, .tup xs => if inOk a xs = true then some (.d (.bl (xs.any fun y => D.eqb y a))) else none
  | .str x, .str y => some (.d (.bl (strIn x y)))
  | _, _ => none
noncomputable def ltD : D → D → Option M
  | .int i, .int j => some (.d (.bl (decide (i < j))))
  | .str x, .str y => some (.d (.bl (decide (x.cps.toList < y.cps.toList))))
  | _, _ => none
noncomputable def leD : D → D → Option M
  | .int i, .int j => some (.d (.bl (decide (i ≤ j))))
  | _, _ => none
noncomputable def gtD : D → D → Option M
  | .int i, .int j => some (.d (.bl (decide (j < i))))
  | _, _ => none
noncomputable def geD : D → D → Option M
  | .int i, .int j => some (.d (.bl (decide (j ≤ i))))
  | _, _ => none
noncomputable def D.isNon : D → Bool
  | .non => true
  | _ => false
noncomputable def isND : D → D → Option M
  | a, .non => some (.d (.bl a.isNon))
  | .bl a, .bl b => some (.d (.bl (decide (a = b))))
  | _, _ => none
noncomputable def isnND : D → D → Option M
  | a, .non => some (.d (.bl (!a.isNon)))
  | .bl a, .bl b => some (.d (.bl (!decide (a = b))))
  | _, _ => none
section
variable {X : Cx}
theorem od_eq (hu : X.A.units + 192 < cLine) : OpD X (compareOp .Eq) eqD := opD_of (by
  intro pins s σ H x y v u Q I rx ry ⟨F, a, b, m, l, va, vb, e, w⟩
  unfold eqD at e
  split at e
  · rename_i hk
    obtain ⟨h1, h2, h3⟩ := eqOk_of hk
    cases e
    obtain ⟨as, r1⟩ := Dp.reads I _ x v (va.dp l h1) rx
    obtain ⟨bs, r2⟩ := Dp.reads I _ y u (vb.dp l h2) ry
    refine SeqAt.eq_plain r1 r2 (D.py_plain a h1) (D.py_plain b h2) (by rw [D.py_dep a h1, D.py_dep b h2]; omega) ⟨.bl _, H, I, rfl, ?_⟩
    rw [D.py_eqv a b h1 h2]
    exact w.bl
  · cases e)
theorem od_ne (hu : X.A.units + 192 < cLine) : OpD X (compareOp .NotEq) neD := opD_of (by
  intro pins s σ H x y v u Q I rx ry ⟨F, a, b, m, l, va, vb, e, w⟩
  unfold neD at e
  split at e
  · rename_i hk
    obtain ⟨h1, h2, h3⟩ := eqOk_of hk
    cases e
    obtain ⟨as, r1⟩ := Dp.reads I _ x v (va.dp l h1) rx
    obtain ⟨bs, r2⟩ := Dp.reads I _ y u (vb.dp l h2) ry
    refine SeqAt.ne_plain r1 r2 (D.py_plain a h1) (D.py_plain b h2) (by rw [D.py_dep a h1, D.py_dep b h2]; omega) ⟨.bl _, H, I, rfl, ?_⟩
    rw [D.py_eqv a b h1 h2]
    exact w.bl
  · have key : ∃ z zs, a = .lst (z :: zs) ∧ b = .lst [] ∧ m = .d (.bl true) := by
      unfold neD2 at e
      split at e
      · cases e; exact ⟨_, _, rfl, rfl, rfl⟩
      · cases e
    obtain ⟨z, zs, rfl, rfl, rfl⟩ := key
    obtain ⟨a1, vs, rfl, h1, r1⟩ := va.list l
    obtain ⟨b1, us, rfl, h2, r2⟩ := vb.list l
    cases rx
    cases ry
    obtain ⟨_, its, n, q1, hl, g1⟩ := Inv.rdl I h1
    obtain ⟨_, its2, n2, q2, hl2, g2⟩ := Inv.rdl I h2
    have e1 : its.length = zs.length + 1 := by rw [← hl, r1.len]; rfl
    have e2 : its2.length = 0 := by rw [← hl2, r2.len]; rfl
    show wpAny (model X.prog X.w) X.A (richCompare .NotEq (.ref a1) (.ref b1)) _ _ s
    exact PySem.SeqAt.RcNeAt.lists_lengths ⟨_, g1, rfl, n, rfl⟩ ⟨_, g2, rfl, n2, rfl⟩ (by rw [List.size_toArray, List.size_toArray, e1, e2]; simp) (by omega) X.prog X.w _ _ ⟨.bl true, H, I, rfl, w.bl⟩)
theorem pys_any {a : D} (ha : a.pl = true) : ∀ {xs : List D}, D.pls xs = true → ((D.pys xs).any fun y => PyData.eqv y a.py) = xs.any fun y => D.eqb y a
  | [], _ => rfl
  | x :: xs, h => by
    have h : (D.pl x && D.pls xs) = true := h
    rw [Bool.and_eq_true] at h
    show (PyData.eqv x.py a.py || _) = (D.eqb x a || _)
    rw [D.py_eqv x a h.1 ha, pys_any ha h.2]
theorem od_in (hu : X.A.units + 192 < cLine) : OpD X (compareOp .In) inD := opD_of (by
  intro pins s σ H x y v u Q I rx ry ⟨F, a, b, m, l, va, vb, e, w⟩
  have seq : ∀ xs : List D, (b = .lst xs ∨ b = .tup xs) → inOk a xs = true → m = .d (.bl (xs.any fun y => D.eqb y a)) → wpAny (model X.prog X.w) X.A (compareOp .In v u) (EP X pins σ Q) X.xe s := fun xs hb hk em => by
    unfold inOk at hk
    rw [Bool.and_eq_true, Bool.and_eq_true] at hk
    have h3 := of_decide_eq_true hk.2
    have hbp : b.pl = true := by rcases hb with rfl | rfl <;> exact hk.1.2
    obtain ⟨as, r1⟩ := Dp.reads I _ x v (va.dp l hk.1.1) rx
    obtain ⟨bs, r2⟩ := Dp.reads I _ y u (vb.dp l hbp) ry
    have hd : X.A.units + 1 + min (PyData.depthAll (D.pys xs)) a.py.depth < cLine := by rw [D.py_dep a hk.1.1, D.pys_dep xs hk.1.2]; omega
    have fin : EP X pins σ Q (.bool ((D.pys xs).any fun y => PyData.eqv y a.py)) s := ⟨.bl _, H, I, rfl, by rw [pys_any hk.1.1 hk.1.2]; rw [em] at w; exact w.bl⟩
    rcases hb with rfl | rfl
    · exact SeqAt.in_list_data r2 r1 (D.pys_plain xs hk.1.2) (D.py_plain a hk.1.1) hd fin
    · exact SeqAt.in_tuple_data r2 r1 (D.pys_plain xs hk.1.2) (D.py_plain a hk.1.1) hd fin
  cases b with
  | lst xs =>
    have e : (if inOk a xs = true then some (M.d (.bl (xs.any fun y => D.eqb y a))) else none) = some m := by cases a <;> exact e
    split at e
    · rename_i hk; cases e; exact seq xs (.inl rfl) hk rfl
    · cases e
  | tup xs =>
    have e : (if inOk a xs = true then some (M.d (.bl (xs.any fun y => D.eqb y a))) else none) = some m := by cases a <;> exact e
    split at e
    · rename_i hk; cases e; exact seq xs (.inr rfl) hk rfl
    · cases e
  | str z =>
    cases a with
    | str i => obtain rfl := va.str; obtain rfl := vb.str; cases e; exact op_in_str pins s σ H _ _ v u Q I rx ry ⟨i, z, rfl, rfl, w.bl⟩
    | _ => cases e
  | _ => cases a <;> cases e)
theorem od_lt : OpD X (compareOp .Lt) ltD := opD_of (by
  intro pins s σ H x y v u Q I rx ry ⟨F, a, b, m, l, va, vb, e, w⟩
  cases a with
  | int i =>
    cases b with
    | int j => obtain rfl := va.int; obtain rfl := vb.int; cases e; exact op_lt pins s σ H _ _ v u Q I rx ry ⟨i, j, rfl, rfl, w.bl⟩
    | _ => cases e
  | str i =>
    cases b with
    | str j => obtain rfl := va.str; obtain rfl := vb.str; cases e; exact op_lt_str pins s σ H _ _ v u Q I rx ry ⟨i, j, rfl, rfl, w.bl⟩
    | _ => cases e
  | _ => cases e)
theorem od_le : OpD X (compareOp .LtE) leD := opD_of (by
  intro pins s σ H x y v u Q I rx ry ⟨F, a, b, m, l, va, vb, e, w⟩
  cases a with
  | int i =>
    cases b with
    | int j => obtain rfl := va.int; obtain rfl := vb.int; cases e; exact op_le pins s σ H _ _ v u Q I rx ry ⟨i, j, rfl, rfl, w.bl⟩
    | _ => cases e
  | _ => cases e)
theorem od_gt : OpD X (compareOp .Gt) gtD := opD_of (by
  intro pins s σ H x y v u Q I rx ry ⟨F, a, b, m, l, va, vb, e, w⟩
  cases a with
  | int i =>
    cases b with
    | int j => obtain rfl := va.int; obtain rfl := vb.int; cases e; exact op_gt pins s σ H _ _ v u Q I rx ry ⟨i, j, rfl, rfl, w.bl⟩
    | _ => cases e
  | _ => cases e)
theorem od_ge : OpD X (compareOp .GtE) geD := opD_of (by
  intro pins s σ H x y v u Q I rx ry ⟨F, a, b, m, l, va, vb, e, w⟩
  cases a with
  | int i =>
    cases b with
    | int j => obtain rfl := va.int; obtain rfl := vb.int; cases e; exact op_ge pins s σ H _ _ v u Q I rx ry ⟨i, j, rfl, rfl, w.bl⟩
    | _ => cases e
  | _ => cases e)
theorem View.isNon {K : KG} {H F : Hp} {v : V} {d : D} (h : View K H F v d) : decide (v = .non) = d.isNon := by
  cases h with
  | fz h => cases h <;> simp [D.isNon]
  | lst _ _ => simp [D.isNon]
  | dk _ _ _ => simp [D.isNon]
  | dt _ _ _ => simp [D.isNon]
theorem od_isN : OpD X (compareOp .Is) isND := opD_of (by
  intro pins s σ H x y v u Q I rx ry ⟨F, a, b, m, l, va, vb, e, w⟩
  cases b with
  | non =>
    have e : some (M.d (.bl a.isNon)) = some m := by cases a <;> exact e
    obtain rfl := vb.non
    cases e
    exact op_isN pins s σ H _ _ v u Q I rx ry ⟨rfl, by rw [va.isNon]; exact w.bl⟩
  | bl y =>
    cases a with
    | bl x =>
      cases e
      obtain rfl := va.bl
      obtain rfl := vb.bl
      exact op_isBl pins s σ H _ _ v u Q I rx ry ⟨x, y, rfl, rfl, w.bl⟩
    | _ => cases e
  | _ => cases a <;> cases e)
theorem od_isnN : OpD X (compareOp .IsNot) isnND := opD_of (by
  intro pins s σ H x y v u Q I rx ry ⟨F, a, b, m, l, va, vb, e, w⟩
  cases b with
  | non =>
    have e : some (M.d (.bl (!a.isNon))) = some m := by cases a <;> exact e
    obtain rfl := vb.non
    cases e
    exact op_notN pins s σ H _ _ v u Q I rx ry ⟨rfl, by rw [va.isNon]; exact w.bl⟩
  | bl y =>
    cases a with
    | bl x =>
      cases e
      obtain rfl := va.bl
      obtain rfl := vb.bl
      exact op_notBl pins s σ H _ _ v u Q I rx ry ⟨x, y, rfl, rfl, w.bl⟩
    | _ => cases e
  | _ => cases a <;> cases e)
/-- a op1 b op2 c -/
noncomputable def mChain (g g' : D → D → Option M) (fa fb fc : FE) : FM := fun S => (fa S).bind fun a S => (fb S).bind fun b S => (onD g a b S).bind fun m S => (asB m S).bind fun k S =>
  if k = true then (fc S).bind fun c S => onD g' b c S else .ok (.d (.bl false)) S
theorem chain_rd {K : KG} {g g' : D → D → Option M} {fa fb fc : FE} {r r' : R2} (hr : ∀ (H F : Hp) (v u : V) (x y : D) (m : M) (Q : VK), Le F H → View K H F v x → View K H F u y → g x y = some m → Wish K H F m Q → r v u H Q)
    (hr' : ∀ (H F : Hp) (v u : V) (x y : D) (m : M) (Q : VK), Le F H → View K H F v x → View K H F u y → g' x y = some m → Wish K H F m Q → r' v u H Q)
    {σ : St} {H : Hp} {Q : VK} (h : rdM K (mChain g g' fa fb fc) σ H Q) : tChain r r' (rdE K fa) (rdE K fb) (rdE K fc) σ H Q := by
  obtain ⟨F, O, S, m, S', rp, hf, k⟩ := h
  obtain ⟨a, S1, h1, h2⟩ := R.bind_ok hf
  obtain ⟨b, S2, h3, h4⟩ := R.bind_ok h2
  obtain ⟨m1, S3, h5, h6⟩ := R.bind_ok h4
  obtain ⟨b1, S4, h7, h8⟩ := R.bind_ok h6
  obtain ⟨e5, x, y, ex, ey, eg⟩ := onD_ok h5
  obtain ⟨e7, e8⟩ := asB_ok h7
  subst e5 e7 e8
  refine ⟨F, O, S, a, S1, rp, h1, fun v H1 F1 O1 st1 r1 ra => ⟨F1, O1, S1, b, S4, r1, h3, fun u H2 F2 O2 st2 r2 rb => ?_⟩⟩
  refine hr H2 F2 v u x y _ _ r2.bs.fh (r2.view (ra.mono st2.ff) ex) (r2.view rb ey) eg (wish_bl ⟨b1, rfl, ?_⟩)
  cases b1 with
  | false =>
    cases h8
    show (if false = true then _ else _)
    rw [if_neg (by decide)]
    exact k _ H2 F2 O2 (st1.trans st2) r2 (.bl false)
  | true =>
    rw [if_pos rfl] at h8 ⊢
    obtain ⟨c, S5, h9, h10⟩ := R.bind_ok h8
    obtain ⟨e9, y', z, ey', ez, eg'⟩ := onD_ok h10
    subst e9
    refine ⟨F2, O2, S4, c, S', r2, h9, fun w H3 F3 O3 st3 r3 rc => ?_⟩
    exact hr' H3 F3 u w y' z m Q r3.bs.fh (r3.view (rb.mono st3.ff) ey') (r3.view rc ez) eg' (r3.wish fun w' H4 F4 O4 st4 r4 rm => k w' H4 F4 O4 (((st1.trans st2).trans st3).trans st4) r4 rm)
theorem dm_chain {op op' : CmpOp} {g g' : D → D → Option M} {fa fb fc : FE} {a b c : Expr} {pos : Pos} (ho : OpD X (compareOp op) g) (ho' : OpD X (compareOp op') g') (ha : DE X fa a) (hb : DE X fb b) (hc : DE X fc c)
    (hm : lastMarks [op, op'] [b, c] = false := by with_unfolding_all rfl) : DM X (mChain g g' fa fb fc) (.Compare a [op, op'] [b, c] pos) := by
  obtain ⟨r, hr, hs⟩ := ho
  obtain ⟨r', hr', hs'⟩ := ho'
  exact PE.imp (pe_chain hr hr' ha hb hc hm) fun σ H Q h => chain_rd hs hs' h
end

/-! ### x[i] -/
noncomputable def ixD : D → D → Option M
  | .lst xs, .int i => (atI xs i).map .d
  | .tup xs, .int i => (atI xs i).map .d
  | .str z, .int i => if z.length ≤ line then (atI z.cps.toList i).map fun c => .d (.str ⟨#[c]⟩) else none
  | _, _ => none
theorem RepDs.ati {K : KG} {F : Hp} {v : List V} {d : List D} {i : Int} {x : D} (h : RepDs K F v d) (e : atI d i = some x) : ∃ u, atI v i = some u ∧ RepD K F u x := by
  unfold atI at e ⊢
  rw [h.len]
  cases hj : ixN d.length i with
  | none => rw [hj] at e; cases e
  | some j =>
    rw [hj] at e
    exact h.get e
section
variable {X : Cx} {e a b : Expr} {pos : Pos}
theorem ix_all : IxR X (semR (kg X) ixD) := by
  intro value slice pins s σ H x y v u Q I rx ry ⟨F, a, b, m, l, va, vb, e, w⟩ hs
  cases b with
  | int i =>
    obtain rfl := vb.int
    cases a with
    | lst xs =>
      obtain ⟨p, vs, rfl, h1, r1⟩ := va.list l
      have e : (atI xs i).map M.d = some m := e
      cases ea : atI xs i with
      | none => rw [ea] at e; cases e
      | some d =>
        rw [ea] at e
        cases e
        obtain ⟨z, hz, rz⟩ := r1.ati ea
        exact ix_list value slice pins s σ H _ _ v u Q I rx ry ⟨p, vs, i, z, rfl, rfl, .inl h1, hz, w.d _ _ rfl rz⟩ hs
    | tup xs =>
      obtain ⟨p, vs, rfl, h1, r1⟩ := va.tuple l
      have e : (atI xs i).map M.d = some m := e
      cases ea : atI xs i with
      | none => rw [ea] at e; cases e
      | some d =>
        rw [ea] at e
        cases e
        obtain ⟨z, hz, rz⟩ := r1.ati ea
        exact ix_tup value slice pins s σ H _ _ v u Q I rx ry ⟨p, vs, i, z, rfl, rfl, h1, hz, w.d _ _ rfl rz⟩ hs
    | str z =>
      obtain rfl := va.str
      have e : (if z.length ≤ line then (atI z.cps.toList i).map fun c => M.d (.str ⟨#[c]⟩) else none) = some m := e
      split at e
      · rename_i hl
        cases ea : atI z.cps.toList i with
        | none => rw [ea] at e; cases e
        | some c =>
          rw [ea] at e
          cases e
          exact ix_str value slice pins s σ H _ _ v u Q I rx ry ⟨z, i, c, rfl, rfl, by rw [← line_eq]; exact hl, ea, w.str⟩ hs
      · cases e
    | _ => cases e
  | _ => cases a <;> cases e
theorem dm_ix {fa fb : FE} (ha : DE X fa a) (hb : DE X fb b) (hs : PlainIx b := by exact fun _ _ => rfl) : DM X (mBin ixD fa fb) (.Subscript a b pos) :=
  PE.imp (pe_ix ix_all ha hb hs) fun σ H Q h => bin_rd (fun H F v u x y m Q l vx vy e w => ⟨F, x, y, m, l, vx, vy, e, w⟩) h

/-! ### slices -/
noncomputable abbrev FP := SS → R (Option Int)
noncomputable def rdP (K : KG) (f : FP) : TO := fun σ H Q => ∃ F O S o S', Rp K H F O σ S ∧ f S = .ok o S' ∧ ∀ H' F' O', Stp H F O H' F' O' → Rp K H' F' O' σ S' → Q o H'
noncomputable abbrev DP (X : Cx) (f : FP) (e : Option Expr) : Prop := PO X e (rdP (kg X) f)
theorem PO.imp {X : Cx} {e : Option Expr} {t t' : TO} (h : PO X e t) (hm : ∀ σ H Q, t' σ H Q → t σ H Q) : PO X e t' := ⟨fun pins s σ H Q I q => h.run pins s σ H Q I (hm σ H Q q)⟩
noncomputable def pNo : FP := fun S => .ok none S
noncomputable def pIx (f : FE) : FP := fun S => (f S).bind fun o S => match o.get S with
  | some (.int i) => .ok (some i) S
  | _ => .no
theorem dp_no : DP X pNo none := PO.imp po_none fun σ H Q ⟨F, O, S, o, S', r, h, k⟩ => by
  cases h
  exact k H F O (Stp.refl _ _ _) r
theorem dp_ix {f : FE} (h : DE X f e) : DP X (pIx f) (some e) := PO.imp (po_some h) fun σ H Q ⟨F, O, S, o, S', r, hf, k⟩ => by
  obtain ⟨o1, S1, h1, h2⟩ := R.bind_ok hf
  refine ⟨F, O, S, o1, S1, r, h1, fun v H1 F1 O1 st1 r1 ro => ?_⟩
  cases eg : o1.get S1 with
  | none => rw [eg] at h2; cases h2
  | some d =>
    rw [eg] at h2
    cases d with
    | int i =>
      cases h2
      obtain rfl := (r1.view ro eg).int
      exact ⟨i, rfl, k H1 F1 O1 st1 r1⟩
    | _ => cases h2
noncomputable def cutD (xs : List D) (lo hi : Option Int) : List D := (xs.drop (HT.sIx xs.length 0 lo)).take (HT.sIx xs.length xs.length hi - HT.sIx xs.length 0 lo)
theorem RepDs.cut {K : KG} {F : Hp} {v : List V} {d : List D} (h : RepDs K F v d) (lo hi : Option Int) : RepDs K F (cutV v lo hi) (cutD d lo hi) := by
  unfold cutV cutD
  rw [h.len]
  exact (h.drop _).take _
noncomputable def sliceD (lo hi : Option Int) : D → Option M
  | .lst xs => some (.lst (cutD xs lo hi))
  | .scr xs => some (.lst (cutD xs lo hi))
  | .tup xs => some (.d (.tup (cutD xs lo hi)))
  | .str z => if z.length ≤ line then some (.d (.str (cutS z lo hi))) else none
  | _ => none
noncomputable def semSl (K : KG) : V → Option Int → Option Int → Hp → VK → Prop := fun v lo hi H Q => ∃ F x m, Le F H ∧ View K H F v x ∧ sliceD lo hi x = some m ∧ Wish K H F m Q
theorem cutD_whole {xs : List D} {lo hi : Option Int} (h : HT.sIx xs.length 0 lo = 0 ∧ HT.sIx xs.length xs.length hi = xs.length) : cutD xs lo hi = xs := by
  unfold cutD
  rw [h.1, h.2]
  simp
theorem sl_all : SlR X (semSl (kg X)) := by
  intro pins s σ H x v vl vu lo hi sl Q I rx hs pl pu ⟨F, d, m, l, vd, e, w⟩
  cases d with
  | lst xs =>
    obtain ⟨p, vs, rfl, h1, r1⟩ := vd.list l
    cases e
    exact sl_list pins s σ H _ v vl vu lo hi sl Q I rx hs pl pu ⟨p, vs, rfl, .inl h1, fun q hq => w.l _ q _ rfl hq (r1.cut lo hi)⟩
  | scr xs =>
    obtain ⟨p, vs, rfl, h1, r1⟩ := vd.scr l
    cases e
    exact sl_list pins s σ H _ v vl vu lo hi sl Q I rx hs pl pu ⟨p, vs, rfl, h1, fun q hq => w.l _ q _ rfl hq (r1.cut lo hi)⟩
  | tup xs =>
    obtain ⟨p, vs, ev, h1, r1⟩ := vd.tuple l
    subst ev
    cases e
    refine sl_tupA pins s σ H _ v vl vu lo hi sl Q I rx hs pl pu ⟨p, vs, rfl, h1, fun hw => ?_, fun _ q hq => w.t _ q _ rfl hq (r1.cut lo hi)⟩
    rw [r1.len] at hw
    cases vd with
    | fz h => exact w.d _ _ rfl (by rw [cutD_whole hw]; exact h)
  | str z =>
    obtain rfl := vd.str
    have e : (if z.length ≤ line then some (M.d (.str (cutS z lo hi))) else none) = some m := e
    split at e
    · rename_i hl
      cases e
      exact sl_str pins s σ H _ v vl vu lo hi sl Q I rx hs pl pu ⟨z, rfl, by rw [← line_eq]; exact hl, w.str⟩
    · cases e
  | _ => cases e
noncomputable def mSl (f : FE) (l h : FP) : FM := fun S => (f S).bind fun o S => (l S).bind fun lo S => (h S).bind fun hi S => match o.get S with
  | some x => (match sliceD lo hi x with
    | some m => .ok m S
    | none => .no)
  | none => .no
theorem dm_sl {f : FE} {l h : FP} {lo hi : Option Expr} {p2 : Pos} (he : DE X f e) (hl : DP X l lo) (hh : DP X h hi) : DM X (mSl f l h) (.Subscript e (.Slice lo hi none p2) pos) :=
  PE.imp (pe_slice sl_all he hl hh) fun σ H Q ⟨F, O, S, m, S', r, hf, k⟩ => by
    obtain ⟨o, S1, h1, h2⟩ := R.bind_ok hf
    obtain ⟨lo', S2, h3, h4⟩ := R.bind_ok h2
    obtain ⟨hi', S3, h5, h6⟩ := R.bind_ok h4
    refine ⟨F, O, S, o, S1, r, h1, fun v H1 F1 O1 st1 r1 ro => ⟨F1, O1, S1, lo', S2, r1, h3, fun H2 F2 O2 st2 r2 => ⟨F2, O2, S2, hi', S3, r2, h5, fun H3 F3 O3 st3 r3 => ?_⟩⟩⟩
    cases eg : o.get S3 with
    | none => rw [eg] at h6; cases h6
    | some x =>
      rw [eg] at h6
      dsimp only at h6
      cases es : sliceD lo' hi' x with
      | none => rw [es] at h6; cases h6
      | some m' =>
        rw [es] at h6
        cases h6
        exact ⟨F3, x, m, r3.bs.fh, r3.view (ro.mono (st2.trans st3).ff) eg, es, r3.wish fun w H4 F4 O4 st4 r4 rm => k w H4 F4 O4 (((st1.trans st2).trans st3).trans st4) r4 rm⟩

section
variable {prog : Program} {w : World} {A : Around} {E : Value → Shared → Prop} {s : Shared}
end
/-! ### a list of a slot is changed -/
theorem Rp.mut {K : KG} {H F : Hp} {O : OW} {σ : St} {S : SS} {j : Nat} {ds : List D} (r : Rp K H F O σ S) (e : S.at j = some (.lst ds)) :
    ∃ a vs, σ[j]? = some (some (.ref a)) ∧ H a = some (.lst vs) ∧ RepDs K F vs ds ∧ ∀ vs' ds', RepDs K F vs' ds' → Stp H F O (upd H a (.lst vs')) F O ∧ Rp K (upd H a (.lst vs')) F O σ (S.set j (some (.lst ds'))) := by
  obtain ⟨v, hv, a, vs, rfl, ho, hh, rd⟩ := r.sl j _ e
  have hF := (r.bs.fo a _ ho).1
  refine ⟨a, vs, hv, hh, rd, fun vs' ds' rd' => ⟨⟨Le.refl _, fun b u hb eb => ?_, fun b q hb => .inl ⟨q, hb⟩, fun b u hb => .inl hb, al_upd⟩, ⟨⟨fun b u hb => ?_, fun b q hb => ?_⟩, by rw [List.length_set]; exact r.len, fun i m hm => ?_⟩⟩⟩
  · rw [upd_ne (fun z => by subst z; rw [ho] at eb; cases eb)]; exact hb
  · rw [upd_ne (ne_of_none hb hF)]; exact r.bs.fh b u hb
  · obtain ⟨h1, h2⟩ := r.bs.fo b q hb
    obtain ⟨u, hu⟩ := h2
    exact ⟨h1, al_upd b u hu⟩
  · rcases SS.at_set hm with ⟨e1, e2⟩ | ⟨ne, hm⟩
    · subst e1
      cases e2
      exact ⟨_, hv, a, vs', rfl, ho, upd_same, rd'⟩
    · obtain ⟨w, hw, rw'⟩ := r.sl i m hm
      refine ⟨w, hw, rw'.stay (Le.refl _) fun b u _ e1 e2 => ⟨?_, e1⟩⟩
      rw [upd_ne (fun z => by subst z; rw [ho] at e1; cases e1; exact ne rfl)]
      exact e2
noncomputable def isL : Option M → Bool
  | some (.lst _) => true
  | some (.d (.lst _)) => true
  | _ => false
theorem Rp.isL {K : KG} {H F : Hp} {O : OW} {σ : St} {S : SS} {j : Nat} {v : V} (r : Rp K H F O σ S) (h : Ev.isL (S.at j) = true) (hv : σ[j]? = some (some v)) : tyV K "list" v H := by
  cases em : S.at j with
  | none => rw [em] at h; cases h
  | some m =>
    rw [em] at h
    obtain ⟨w, hw, rm⟩ := r.sl j m em
    rw [hv] at hw
    cases hw
    cases m with
    | lst xs =>
      obtain ⟨a, vs, rfl, _, hh, _⟩ := rm
      exact .inl ⟨rfl, vs, .inl (.inl hh)⟩
    | d x =>
      cases x with
      | lst xs =>
        cases (show RepD K F v (.lst xs) from rm) with
        | lst hs _ => exact .inl ⟨rfl, _, .inl (r.bs.fh.rd hs)⟩
      | _ => cases h
    | _ => cases h
noncomputable def isLq (j : Nat) : SS → R Unit := fun S => if isL (S.at j) = true then .ok () S else .no
/-- x.append(e) -/
noncomputable def mApp (j : Nat) (f : FE) : FM := fun S => (isLq j S).bind fun _ S => (f S).bind fun o S => match force o S with
  | some (x, S1) => (match S1.at j with
    | some (.lst xs) => if xs.length < line then .ok (.d .non) (S1.set j (some (.lst (xs ++ [x])))) else .no
    | _ => .no)
  | none => .no
theorem isLq_ok {j : Nat} {S S' : SS} {u : Unit} (h : isLq j S = .ok u S') : S' = S ∧ isL (S.at j) = true := by
  unfold isLq at h
  split at h
  · rename_i hl; cases h; exact ⟨rfl, hl⟩
  · cases h
theorem at_slot {K : KG} {H F : Hp} {O : OW} {σ : St} {S : SS} {j : Nat} (r : Rp K H F O σ S) (h : Ev.isL (S.at j) = true) : ∃ v, σ[j]? = some (some v) := by
  cases em : S.at j with
  | none => rw [em] at h; cases h
  | some m =>
    obtain ⟨w, hw, _⟩ := r.sl j m em
    exact ⟨w, hw⟩
theorem dm_app {j : Nat} {o : Expr} {apos cpos : Pos} {f : FE} (ho : PE X o (tVar j)) (he : DE X f e) (hbase : attributeBase o "append" X.env (eval o X.env) = eval o X.env := by rfl)
    (hfew : ((backTo cpos (starEach [e] X.env)).all (fun x => !x.1) && (backToKw cpos (keywordEach [] X.env)).all (fun x => x.1.isSome)
      && decide ([e].length + ([] : List Keyword).length + (if ([] : List Keyword).isEmpty then 0 else 1) < 30)) = true := by rfl)
    (hline : (apos.endLine == cpos.line) = true := by rfl) (hs : starEach [e] X.env = (false, eval e X.env) :: starEach [] X.env := by rfl) (hplain : (backTo cpos (starEach [] X.env)).any (·.1) = false := by rfl) :
    DM X (mApp j f) (.Call (.Attribute o "append" apos) [e] [] cpos) :=
  PE.imp (pe_bm PySem.F.plainAttrs_list PySem.F.slot_list_append PySem.F.type_list_append mt_append ho (pa_cons he pa_nil hs) hbase hfew hline hs hplain) fun σ H Q ⟨F, O, S, m, S', r, hf, k⟩ => by
    obtain ⟨_, S0, h1, h2⟩ := R.bind_ok hf
    obtain ⟨e0, hl0⟩ := isLq_ok h1
    subst e0
    obtain ⟨oo, S1, h3, h4⟩ := R.bind_ok h2
    obtain ⟨v, hv⟩ := at_slot r hl0
    refine ⟨v, hv, r.isL hl0 hv, F, O, S0, oo, S1, r, h3, fun u H1 F1 O1 st1 r1 ro => ?_⟩
    show rAppend v [u] H1 Q
    cases ef : force oo S1 with
    | none => rw [ef] at h4; cases h4
    | some z =>
      obtain ⟨x, S2⟩ := z
      rw [ef] at h4
      dsimp only at h4
      obtain ⟨F2, O2, st2, r2, rx⟩ := force_ok r1 ro ef
      split at h4
      · rename_i xs em
        split at h4
        · rename_i hlt
          cases h4
          obtain ⟨a, vs, hv2, hH, rv, chg⟩ := r2.mut em
          rw [hv] at hv2
          cases hv2
          obtain ⟨st3, r3⟩ := chg (vs ++ [u]) (xs ++ [x]) (rv.snoc rx)
          exact ⟨a, vs, u, rfl, rfl, hH, by rw [rv.len, ← line_eq]; exact hlt, k _ _ _ _ ((st1.trans st2).trans st3) r3 .non⟩
        · cases h4
      · cases h4
/-- x.pop() -/
noncomputable def mPop (j : Nat) : FM := fun S => match S.at j with
  | some (.lst xs) => (match xs.getLast? with
    | some x => .ok (.d x) (S.set j (some (.lst xs.dropLast)))
    | none => .no)
  | _ => .no
theorem dm_pop {j : Nat} {o : Expr} {apos cpos : Pos} (ho : PE X o (tVar j)) (hbase : attributeBase o "pop" X.env (eval o X.env) = eval o X.env := by rfl) (hline : (apos.endLine == cpos.line) = true := by rfl) :
    DM X (mPop j) (.Call (.Attribute o "pop" apos) [] [] cpos) :=
  PE.imp (pe_bm0 PySem.F.plainAttrs_list PySem.F.slot_list_pop PySem.F.type_list_pop mt_pop ho hbase hline) fun σ H Q ⟨F, O, S, m, S', r, hf, k⟩ => by
    unfold mPop at hf
    split at hf
    · rename_i xs em
      split at hf
      · rename_i x hx
        cases hf
        obtain ⟨a, vs, hv, hH, rv, chg⟩ := r.mut em
        have hx2 : xs[xs.length - 1]? = some x := by rw [← List.getLast?_eq_getElem?]; exact hx
        obtain ⟨u, hu, ru⟩ := rv.get hx2
        obtain ⟨st3, r3⟩ := chg vs.dropLast xs.dropLast rv.dropLast
        exact ⟨_, hv, r.isL (by rw [em]; rfl) hv, a, vs, u, rfl, rfl, hH, by rw [rv.len]; exact hu, k _ _ _ _ st3 r3 ru⟩
      · cases hf
    · cases hf
/-- x[i] = e -/
noncomputable def putIx (j : Nat) (k : D) (x : D) (S : SS) : Option SS := match k, S.at j with
  | .int k, some (.lst xs) => (match ixN xs.length k with
    | some n => some (S.set j (some (.lst (xs.set n x))))
    | none => none)
  | _, _ => none
theorem putIx_ok {j : Nat} {k x : D} {S S' : SS} (h : putIx j k x S = some S') : ∃ i xs n, k = .int i ∧ S.at j = some (.lst xs) ∧ ixN xs.length i = some n ∧ S' = S.set j (some (.lst (xs.set n x))) := by
  unfold putIx at h
  split at h
  · rename_i i xs em
    split at h
    · rename_i n hn
      cases h
      exact ⟨i, xs, n, rfl, em, hn, rfl⟩
    · cases h
  · cases h
noncomputable def sSetIx (j : Nat) (f fi : FE) : FS := fun S => (f S).bind fun o S => match force o S with
  | some (x, S1) => (isLq j S1).bind fun _ S1 => (fi S1).bind fun i S2 => (match i.get S2 with
    | some k => (match putIx j k x S2 with
      | some S3 => .ok .nx S3
      | none => .no)
    | none => .no)
  | none => .no
theorem ds_setIx {kp : Nat → Bool} {j : Nat} {o i : Expr} {spos : Pos} {f fi : FE} (he : DE X f e) (ho : PE X o (tVar j)) (hi : DE X fi i)
    (ha : ∀ v, assign (.Subscript o i pos) X.env v = (do
      let ov ← holding [v] (eval o X.env)
      let iv ← holding [v, ov] (eval i X.env)
      standAt pos
      holding [v, ov, iv] (setItem ov iv v)
      release [v, ov, iv] []) := by intro _; rfl)
    (hs : swapsWithSole [.Subscript o i pos] e spos.line X.env = pure false := by rfl) (hw : swappedStores [.Subscript o i pos] e X.env = pure none := by rfl)
    (h1 : (assignEach [.Subscript o i pos] X.env).map (·.2) = [assign (.Subscript o i pos) X.env] := by rfl) : DS X kp (sSetIx j f fi) (.Assign [.Subscript o i pos] e spos) :=
  PS.imp (ps_asg he (pg_sub ho hi set_list ha) hs hw h1) fun D σ H ⟨F, O, S, fl, S', r, hf, k⟩ => by
    obtain ⟨oo, S1, h1, h2⟩ := R.bind_ok hf
    refine ⟨F, O, S, oo, S1, r, h1, fun v H1 F1 O1 st1 r1 ro => ?_⟩
    cases ef : force oo S1 with
    | none => rw [ef] at h2; cases h2
    | some z =>
      obtain ⟨x, S2⟩ := z
      rw [ef] at h2
      dsimp only at h2
      obtain ⟨F2, O2, st2, r2, rx⟩ := force_ok r1 ro ef
      obtain ⟨_, S2', h3, h4⟩ := R.bind_ok h2
      obtain ⟨e0, hl0⟩ := isLq_ok h3
      subst e0
      obtain ⟨w, hw⟩ := at_slot r2 hl0
      obtain ⟨oi, S3, h5, h6⟩ := R.bind_ok h4
      refine ⟨w, hw, F2, O2, S2', oi, S3, r2, h5, fun iv H3 F3 O3 st3 r3 ri => ?_⟩
      cases eg : oi.get S3 with
      | none => rw [eg] at h6; cases h6
      | some kk =>
        rw [eg] at h6
        dsimp only at h6
        cases ep : putIx j kk x S3 with
        | none => rw [ep] at h6; cases h6
        | some S4 =>
          rw [ep] at h6
          cases h6
          obtain ⟨ii, xs, n, rfl, em, hn, rfl⟩ := putIx_ok ep
          obtain rfl := (r3.view ri eg).int
          obtain ⟨a, vs, hv2, hH, rv, chg⟩ := r3.mut em
          rw [hw] at hv2
          cases hv2
          obtain ⟨st4, r4⟩ := chg (vs.set n v) (xs.set n x) (RepDs.set (rx.mono st3.ff) n rv)
          exact ⟨a, vs, ii, n, rfl, rfl, hH, by rw [rv.len]; exact hn, k σ _ _ _ (((st1.trans st2).trans st3).trans st4) r4 (Kp.refl _ _)⟩
/-! ### x op= e -/
noncomputable def OpDi (X : Cx) (op : Operator) (g : D → D → Option M) : Prop := OpR X (inplaceOp op) (semR (kg X) g)
noncomputable def iaddD : D → D → Option M
  | .int i, .int j => some (.d (.int (i + j)))
  | .str x, .str y => if x.length + y.length ≤ line then some (.d (.str (x ++ y))) else none
  | _, _ => none
theorem oi_add : OpDi X .Add iaddD := by
  intro pins s σ H x y v u Q I rx ry ⟨F, a, b, m, l, va, vb, e, w⟩
  cases a with
  | int i =>
    obtain rfl := va.int
    cases b with
    | int j => obtain rfl := vb.int; cases e; exact iop_add pins s σ H _ _ v u Q I rx ry ⟨i, j, rfl, rfl, w.int⟩
    | _ => cases e
  | str i =>
    obtain rfl := va.str
    cases b with
    | str j =>
      obtain rfl := vb.str
      have e : (if i.length + j.length ≤ line then some (M.d (.str (i ++ j))) else none) = some m := e
      split at e
      · rename_i hz; cases e; exact iop_add_str pins s σ H _ _ v u Q I rx ry ⟨i, j, rfl, rfl, by rw [← line_eq]; exact hz, w.str⟩
      · cases e
    | _ => cases e
  | _ => cases e
noncomputable def sAug (i : Nat) (g : D → D → Option M) (f : FE) : FS := fun S => match S.at i with
  | some (.d x) => (f S).bind fun o S => (match o.get S with
    | some y => (match g x y with
      | some (.d z) => .ok .nx (S.set i (some (.d z)))
      | _ => .no)
    | none => .no)
  | _ => .no
theorem Rp.wishD {K : KG} {H F : Hp} {O : OW} {σ : St} {S : SS} {z : D} {Q : VK} (r : Rp K H F O σ S) (k : ∀ v H' F' O', Stp H F O H' F' O' → Rp K H' F' O' σ S → RepD K F' v z → Q v H') : Wish K H F (.d z) Q :=
  r.wish fun v H' F' O' st r' rm => k v H' F' O' st r' rm
theorem ds_aug {kp : Nat → Bool} {i : Nat} {x : Str} {op : Operator} {g : D → D → Option M} {f : FE} {pos' : Pos} (hN : X.N.Nodup) (hi : X.N[i]? = some x) (hx : Loc X.env.scope x) (hk : kp i = false) (he : DE X f e) (ho : OpDi X op g)
    (hf : X.fn x = true ∨ X.env.scope.names.lookup x = some .local := by first | exact .inl rfl | exact .inr rfl | assumption) : DS X kp (sAug i g f) (.AugAssign (.Name x pos') op e pos) :=
  PS.imp (ps_aug (ti := semR (kg X) g) hN hi hx he ho hf) fun D σ H ⟨F, O, S, fl, S', r, hf, k⟩ => by
    unfold sAug at hf
    split at hf
    · rename_i old em
      obtain ⟨o, S1, h1, h2⟩ := R.bind_ok hf
      obtain ⟨v, hv, rm⟩ := r.sl i _ em
      refine ⟨v, hv, F, O, S, o, S1, r, h1, fun u H1 F1 O1 st1 r1 ro => ?_⟩
      cases eg : o.get S1 with
      | none => rw [eg] at h2; cases h2
      | some y =>
        rw [eg] at h2
        dsimp only at h2
        cases ez : g old y with
        | none => rw [ez] at h2; cases h2
        | some m =>
          rw [ez] at h2
          cases m with
          | d z =>
            cases h2
            exact ⟨F1, old, y, _, r1.bs.fh, .fz (RepD.mono st1.ff rm), r1.view ro eg, ez, r1.wishD fun w H2 F2 O2 st2 r2 rz => k _ H2 F2 O2 (st1.trans st2) (r2.putD rz) (Kp.set hk)⟩
          | _ => cases h2
    · cases hf
theorem pget_list : PGet X (rIxL X.K) := by
  intro pins s σ H o i ov iv Q I ro ri h
  obtain ⟨p, xs, i, z, rfl, rfl, hq, he, q⟩ := h
  cases ro
  obtain ⟨t, rfl⟩ := ri
  obtain ⟨its, r, pl, hz⟩ := I.list hq
  obtain ⟨j, h1, h2, h3, h4, h5⟩ := atI_get he
  obtain ⟨w, ew, rw'⟩ := r.get h2
  have hl := r.length
  have hn := line63
  have fin : EP X pins σ Q w s := ⟨z, H, I, rw', q⟩
  by_cases h0 : 0 ≤ i
  · have hj : i.toNat = j := by
      rw [PySem.seqIndex_of h0 h5] at h1
      exact Option.some.inj h1
    exact wpAny_getItem_list pl.isList h0 (by omega) (by rw [hj]; simpa using ew) fin
  · have hj : (i + (its.toArray.size : Int)).toNat = j := by
      rw [PySem.seqIndex_neg (by omega) h4] at h1
      rw [List.size_toArray, ← hl]
      exact Option.some.inj h1
    exact wpAny_getItem_list_neg pl.isList (by omega) (by rw [List.size_toArray] <;> omega) (by omega) (by rw [hj]; simpa using ew) fin
/-- x[i] op= e -/
noncomputable def sAugIx (j : Nat) (g : D → D → Option M) (fi f : FE) : FS := fun S => (isLq j S).bind fun _ S => (fi S).bind fun oi S => match oi.get S, S.at j with
  | some (.int k), some (.lst xs) => (match atI xs k with
    | some old => (f S).bind fun o S => (match o.get S with
      | some y => (match g old y with
        | some (.d z) => (match putIx j (.int k) z S with
          | some S3 => .ok .nx S3
          | none => .no)
        | _ => .no)
      | none => .no)
    | none => .no)
  | _, _ => .no
theorem ds_augIx {kp : Nat → Bool} {j : Nat} {o i : Expr} {op : Operator} {g : D → D → Option M} {f fi : FE} {tpos : Pos} (ho : PE X o (tVar j)) (hi : DE X fi i) (he : DE X f e) (hop : OpDi X op g)
    (ha : ∀ ov iv new, augStore i ov iv new = (do holding [new, ov, iv] (setItem ov iv new); release [new, ov, iv] []; pure .next) := by intros; rfl) : DS X kp (sAugIx j g fi f) (.AugAssign (.Subscript o i tpos) op e pos) :=
  PS.imp (ps_augS ho hi pget_list he (show PIp X op (semR (kg X) g) from hop) set_list ha) fun D σ H ⟨F, O, S, fl, S', r, hf, k⟩ => by
    obtain ⟨_, S0, h1, h2⟩ := R.bind_ok hf
    obtain ⟨e0, hl0⟩ := isLq_ok h1
    subst e0
    obtain ⟨w, hw⟩ := at_slot r hl0
    obtain ⟨oi, S1, h3, h4⟩ := R.bind_ok h2
    refine ⟨w, hw, F, O, S0, oi, S1, r, h3, fun iv H1 F1 O1 st1 r1 ri => ?_⟩
    split at h4
    · rename_i kk xs eg em
      obtain rfl := (r1.view ri eg).int
      obtain ⟨a, vs, hv2, hH, rv, _⟩ := r1.mut em
      rw [hw] at hv2
      cases hv2
      cases ea : atI xs kk with
      | none => rw [ea] at h4; cases h4
      | some old =>
        rw [ea] at h4
        dsimp only at h4
        obtain ⟨vo, hvo, rvo⟩ := rv.ati ea
        refine ⟨a, vs, kk, vo, rfl, rfl, .inl (.inl hH), hvo, ?_⟩
        obtain ⟨oo, S2, h5, h6⟩ := R.bind_ok h4
        refine ⟨F1, O1, S1, oo, S2, r1, h5, fun u H2 F2 O2 st2 r2 ro => ?_⟩
        cases eg2 : oo.get S2 with
        | none => rw [eg2] at h6; cases h6
        | some y =>
          rw [eg2] at h6
          dsimp only at h6
          cases ez : g old y with
          | none => rw [ez] at h6; cases h6
          | some m =>
            rw [ez] at h6
            cases m with
            | d z =>
              dsimp only at h6
              cases ep : putIx j (.int kk) z S2 with
              | none => rw [ep] at h6; cases h6
              | some S3 =>
                rw [ep] at h6
                cases h6
                obtain ⟨ii, xs2, n, e1, em2, hn, rfl⟩ := putIx_ok ep
                cases e1
                refine ⟨F2, old, y, _, r2.bs.fh, .fz (RepD.mono st2.ff rvo), r2.view ro eg2, ez, r2.wishD fun vz H3 F3 O3 st3 r3 rz => ?_⟩
                obtain ⟨a2, vs2, hv3, hH2, rv2, chg2⟩ := r3.mut em2
                rw [hw] at hv3
                cases hv3
                obtain ⟨st4, r4⟩ := chg2 (vs2.set n vz) (xs2.set n z) (RepDs.set rz n rv2)
                exact ⟨_, vs2, kk, n, rfl, rfl, hH2, by rw [rv2.len]; exact hn, k σ _ _ _ (((st1.trans st2).trans st3).trans st4) r4 (Kp.refl _ _)⟩
            | _ => cases h6
    · cases h4

/-! ### built-ins -/
inductive Views (K : KG) (H F : Hp) : List V → List D → Prop
  | nil : Views K H F [] []
  | cons {v : V} {vs : List V} {d : D} {ds : List D} : View K H F v d → Views K H F vs ds → Views K H F (v :: vs) (d :: ds)
noncomputable def semC (K : KG) (g : List D → Option M) : List V → Hp → VK → Prop := fun vs H Q => ∃ F xs m, Le F H ∧ Views K H F vs xs ∧ g xs = some m ∧ Wish K H F m Q
noncomputable def getAll : List Ov → SS → Option (List D)
  | [], _ => some []
  | o :: os, S => match o.get S with
    | some d => (match getAll os S with
      | some ds => some (d :: ds)
      | none => none)
    | none => none
theorem getAll_ok {K : KG} {H F : Hp} {O : OW} {σ : St} {S : SS} (r : Rp K H F O σ S) : ∀ {vs : List V} {os : List Ov} {ds : List D}, RepOvs K F σ vs os → getAll os S = some ds → Views K H F vs ds
  | _, _, _, .nil, h => by cases h; exact .nil
  | _, o :: os, ds, .cons ro rs, h => by
    have h : (match o.get S with | some d => (match getAll os S with | some ds => some (d :: ds) | none => none) | none => none) = some ds := h
    cases e1 : o.get S with
    | none => rw [e1] at h; cases h
    | some d =>
      rw [e1] at h
      dsimp only at h
      cases e2 : getAll os S with
      | none => rw [e2] at h; cases h
      | some dr =>
        rw [e2] at h
        cases h
        exact .cons (r.view ro e1) (getAll_ok r rs e2)
noncomputable def mBlt (g : List D → Option M) (fas : FA) : FM := fun S => (fas S).bind fun os S => match getAll os S with
  | some ds => (match g ds with
    | some m => .ok m S
    | none => .no)
  | none => .no
theorem blt_rd {K : KG} {g : List D → Option M} {fas : FA} {σ : St} {H : Hp} {Q : VK} (h : rdM K (mBlt g fas) σ H Q) : tCB (semC K g) (rdA K fas) σ H Q := by
  obtain ⟨F, O, S, m, S', r, hf, k⟩ := h
  obtain ⟨os, S1, h1, h2⟩ := R.bind_ok hf
  refine ⟨F, O, S, os, S1, r, h1, fun vs H1 F1 O1 st1 r1 ro => ?_⟩
  cases eg : getAll os S1 with
  | none => rw [eg] at h2; cases h2
  | some ds =>
    rw [eg] at h2
    dsimp only at h2
    cases em : g ds with
    | none => rw [em] at h2; cases h2
    | some m' =>
      rw [em] at h2
      cases h2
      exact ⟨F1, ds, m, r1.bs.fh, getAll_ok r1 ro eg, em, r1.wish fun w H2 F2 O2 st2 r2 rm => k w H2 F2 O2 (st1.trans st2) r2 rm⟩
theorem dm_blt {id : String} {x : Str} {es : List Expr} {p : Pos} {g : List D → Option M} {fas : FA} (hc : CallR X (.builtin id) (semC (kg X) g)) (hg : Gl X x) (hm : X.mg x = none) (hv : bootBuiltins x = some (.builtin id)) (ha : DA X fas (e :: es))
    (hn : x ≠ "__name__" := by decide) (hdb : (x == ("__debug__" : Str)) = false := by decide)
    (he : starEach (e :: es) X.env = (false, eval e X.env) :: starEach es X.env := by rfl) (hpl : (backTo pos (starEach es X.env)).any (·.1) = false := by rfl) : DM X (mBlt g fas) (.Call (.Name x p) (e :: es) [] pos) :=
  PE.imp (pe_callB hc hg hm hv ha hn hdb he hpl) fun σ H Q h => blt_rd h
theorem dm_bty {T : String} {x : Str} {es : List Expr} {p : Pos} {g : List D → Option M} {fas : FA} (hc : CallR X (.type T) (semC (kg X) g)) (hg : Gl X x) (hm : X.mg x = none) (hv : bootBuiltins x = some (.type T)) (ha : DA X fas (e :: es))
    (hn : x ≠ "__name__" := by decide) (hdb : (x == ("__debug__" : Str)) = false := by decide)
    (he : starEach (e :: es) X.env = (false, eval e X.env) :: starEach es X.env := by rfl) (hpl : (backTo pos (starEach es X.env)).any (·.1) = false := by rfl) : DM X (mBlt g fas) (.Call (.Name x p) (e :: es) [] pos) :=
  PE.imp (pe_callTy hc hg hm hv ha hn hdb he hpl) fun σ H Q h => blt_rd h
end

noncomputable def D.knd : D → String
  | .non => "NoneType"
  | .bl _ => "bool"
  | .int _ => "int"
  | .str _ => "str"
  | .tup _ => "tuple"
  | .lst _ => "list"
  | .dk _ => "dict"
  | .dt _ => "dict"
  | .odk => "dict"
  | _ => ""
noncomputable def on1 (g : D → Option M) : List D → Option M
  | [x] => g x
  | _ => none
noncomputable def on2 (g : D → D → Option M) : List D → Option M
  | [x, y] => g x y
  | _ => none
theorem call1 {X : Cx} {f : Value} {g : D → Option M} (h : ∀ (pins : List (Addr × Obj)) (s : Shared) (σ : St) (H F : Hp) (v : V) (x : D) (us : List Value) (m : M) (Q : VK), Inv X pins σ H s → Vals [v] us → Le F H → View (kg X) H F v x → g x = some m → Wish (kg X) H F m Q →
    wpAny (model X.prog X.w) X.A (call f us) (EP X pins σ Q) X.xe s) : CallR X f (semC (kg X) (on1 g)) := by
  intro pins s σ H vs us Q I r ⟨F, xs, m, l, w, e, wi⟩
  cases w with
  | nil => cases e
  | cons wx w =>
    cases w with
    | nil => exact h pins s σ H F _ _ us m Q I r l wx e wi
    | cons _ _ => cases e
theorem call2 {X : Cx} {f : Value} {g : D → D → Option M} (h : ∀ (pins : List (Addr × Obj)) (s : Shared) (σ : St) (H F : Hp) (v w : V) (x y : D) (us : List Value) (m : M) (Q : VK), Inv X pins σ H s → Vals [v, w] us → Le F H → View (kg X) H F v x → View (kg X) H F w y → g x y = some m → Wish (kg X) H F m Q →
    wpAny (model X.prog X.w) X.A (call f us) (EP X pins σ Q) X.xe s) : CallR X f (semC (kg X) (on2 g)) := by
  intro pins s σ H vs us Q I r ⟨F, xs, m, l, w, e, wi⟩
  cases w with
  | nil => cases e
  | cons wx w =>
    cases w with
    | nil => cases e
    | cons wy w =>
      cases w with
      | nil => exact h pins s σ H F _ _ _ _ us m Q I r l wx wy e wi
      | cons _ _ => cases e
noncomputable def isiK (k n : String) : Bool := k == n || (k == "bool" && n == "int")
noncomputable def isiD (x y : D) : Option M := match y with
  | .ty n => if x.knd ≠ "" ∧ (n = "int" ∨ n = "bool" ∨ n = "str" ∨ n = "tuple" ∨ n = "list" ∨ n = "dict") then some (.d (.bl (isiK x.knd n))) else none
  | _ => none
theorem View.tyX {K : KG} {H F : Hp} {v : V} {d : D} (l : Le F H) (h : View K H F v d) (hk : d.knd ≠ "") (ho : d ≠ .odk := by intro h; cases h) : TyX K H v (.type d.knd) := by
  have rd : ∀ {a : Addr} {vs : List V}, Rd H a (.lst vs) → TyX K H (.ref a) (.type "list") := fun {a vs} h => by
    rcases h with h | ⟨o, h⟩
    · exact .base (.lst h)
    · exact .base (.frz h)
  cases h with
  | fz h =>
    cases h with
    | non => exact .base .non
    | bl b => exact .base (.bl b)
    | int i => exact .base (.int i)
    | str x => exact .base (.str x)
    | tup hs _ =>
      rcases l.st hs with (h | ⟨o, h⟩) | ⟨o, its, n, hk, hc, _⟩
      · exact .base (.tup h)
      · exact .fTuple h
      · exact .kTuple hk hc
    | lst hs _ => exact rd (l.rd hs)
    | dk hs _ _ =>
      rcases l.rd hs with h | ⟨o, h⟩
      · exact .base (.dK h)
      · exact .fDict h
    | ty n => exact absurd rfl hk
    | scr _ _ => exact absurd rfl hk
    | dt hs _ _ => exact .base (.dT (l _ _ hs))
    | obj _ _ _ _ => exact absurd rfl hk
    | any _ => exact absurd rfl hk
    | odk _ => exact absurd rfl ho
  | lst h _ => exact .base (.lst h)
  | dk h _ _ => exact .base (.dK h)
  | dt h _ _ => exact .base (.dT h)
theorem kit_all : ∀ k ∈ ["NoneType", "bool", "int", "str", "tuple", "list", "dict"], ∀ n ∈ ["int", "bool", "str", "tuple", "list", "dict"], kitB k n = some (isiK k n) := by decide +kernel
section
variable {X : Cx}
theorem cd_isi : CallR X (.builtin "isinstance") (semC (kg X) (on2 isiD)) := call2 fun pins s σ H F v w x y us m Q I r l wx wt e wi => by
  cases y with
  | ty n =>
    obtain rfl := wt.ty
    have e : (if x.knd ≠ "" ∧ (n = "int" ∨ n = "bool" ∨ n = "str" ∨ n = "tuple" ∨ n = "list" ∨ n = "dict") then some (M.d (.bl (isiK x.knd n))) else none) = some m := e
    split at e
    · rename_i hh
      cases e
      have hk : kitB x.knd n = some (isiK x.knd n) := by
        refine kit_all _ ?_ _ ?_
        · have := hh.1
          cases x <;> simp [D.knd] at this ⊢
        · rcases hh.2 with h | h | h | h | h | h <;> simp [h]
      by_cases ho : x = .odk
      · subst ho
        obtain ⟨a, rfl, ha⟩ : ∃ a, v = .ref a ∧ F a = some (.ext (isDct a)) := by cases wx with | fz h => cases h with | odk h => exact ⟨_, rfl, h⟩
        obtain ⟨u1, u2, rfl, r1, r2⟩ := vals2 r
        cases (show u1 = Value.ref a from r1)
        have e2 := (ClsV.ty n).eq r2
        subst e2
        obtain ⟨hd, _, _⟩ := (show ObjOk X.prog X.w H s.heap a (.ext (isDct a)) from I.hok a _ (l _ _ ha))
        exact PySem.W.kia_one PySem.W.kitx_dict I.kIn hd (kit_ty hk) (fun z => nomatch z) fun tk => ⟨.bl _, H, I.tok tk, rfl, wi.bl⟩
      · exact call_isi pins s σ H _ us Q I r ⟨_, .ty n, _, .type n, isiK x.knd n, rfl, .ty n, wx.tyX l hh.1 ho, kit_ty hk, wi.bl⟩
    · cases e
  | _ => cases e
noncomputable def absD : D → Option M
  | .int i => some (.d (.int (if i < 0 then -i else i)))
  | _ => none
theorem cd_abs : CallR X (.builtin "abs") (semC (kg X) (on1 absD)) := call1 fun pins s σ H F v x us m Q I r l wx e wi => by
  cases x with
  | int i => obtain rfl := wx.int; cases e; exact call_abs pins s σ H _ us Q I r ⟨i, rfl, wi.int⟩
  | _ => cases e
noncomputable def lenD : D → Option M
  | .lst xs => some (.d (.int xs.length))
  | .scr xs => some (.d (.int xs.length))
  | .tup xs => some (.d (.int xs.length))
  | .str x => if x.length ≤ line then some (.d (.int x.length)) else none
  | _ => none
theorem cd_len : CallR X (.builtin "len") (semC (kg X) (on1 lenD)) := call1 fun pins s σ H F v x us m Q I r l wx e wi => by
  cases x with
  | lst ds =>
    obtain ⟨a, vs, rfl, h1, r1⟩ := wx.list l
    cases e
    exact call_len pins s σ H _ us Q I r ⟨_, _, rfl, .inl ⟨vs, .inl h1, rfl⟩, by rw [r1.len]; exact wi.int⟩
  | scr ds =>
    obtain ⟨a, vs, rfl, h1, r1⟩ := wx.scr l
    cases e
    exact call_len pins s σ H _ us Q I r ⟨_, _, rfl, .inl ⟨vs, h1, rfl⟩, by rw [r1.len]; exact wi.int⟩
  | tup ds =>
    obtain ⟨a, vs, rfl, h1, r1⟩ := wx.tuple l
    cases e
    exact call_len pins s σ H _ us Q I r ⟨_, _, rfl, .inr ⟨vs, h1, rfl⟩, by rw [r1.len]; exact wi.int⟩
  | str x =>
    obtain rfl := wx.str
    have e : (if x.length ≤ line then some (M.d (.int x.length)) else none) = some m := e
    split at e
    · rename_i hz
      cases e
      exact call_len pins s σ H _ us Q I r ⟨_, _, rfl, ⟨by rw [← line_eq]; exact hz, rfl⟩, wi.int⟩
    · cases e
  | _ => cases e
noncomputable def maxD : D → D → Option M
  | .int i, .int j => some (.d (.int (if j > i then j else i)))
  | _, _ => none
theorem cd_max (hc : X.calm = true) : CallR X (.builtin "max") (semC (kg X) (on2 maxD)) := call2 fun pins s σ H F v w x y us m Q I r l wx wy e wi => by
  cases x with
  | int i =>
    cases y with
    | int j => obtain rfl := wx.int; obtain rfl := wy.int; cases e; exact call_max2 hc pins s σ H _ us Q I r ⟨i, j, rfl, wi.int⟩
    | _ => cases e
  | _ => cases e
noncomputable def intD : D → Option M
  | .int i => some (.d (.int i))
  | .bl b => some (.d (.int (if b then 1 else 0)))
  | _ => none
theorem cd_int : CallR X (.type "int") (semC (kg X) (on1 intD)) := call1 fun pins s σ H F v x us m Q I r l wx e wi => by
  cases x with
  | int i => obtain rfl := wx.int; cases e; exact call_int1 pins s σ H _ us Q I r (.inl ⟨i, rfl, wi.int⟩)
  | bl i => obtain rfl := wx.bl; cases e; exact call_int1 pins s σ H _ us Q I r (.inr ⟨i, rfl, wi.int⟩)
  | _ => cases e
noncomputable def listD : D → Option M
  | .lst xs => some (.lst xs)
  | .scr xs => some (.lst xs)
  | .tup xs => some (.lst xs)
  | _ => none
theorem cd_list : CallR X (.type "list") (semC (kg X) (on1 listD)) := call1 fun pins s σ H F v x us m Q I r l wx e wi => by
  cases x with
  | lst ds =>
    obtain ⟨a, vs, rfl, h1, r1⟩ := wx.list l
    cases e
    exact call_list_of pins s σ H _ us Q I r ⟨a, vs, rfl, .inl (.inl h1), fun p hp => wi.l _ p _ rfl hp r1⟩
  | scr ds =>
    obtain ⟨a, vs, rfl, h1, r1⟩ := wx.scr l
    cases e
    exact call_list_of pins s σ H _ us Q I r ⟨a, vs, rfl, .inl h1, fun p hp => wi.l _ p _ rfl hp r1⟩
  | tup ds =>
    obtain ⟨a, vs, rfl, h1, r1⟩ := wx.tuple l
    cases e
    exact call_list_of pins s σ H _ us Q I r ⟨a, vs, rfl, .inr h1, fun p hp => wi.l _ p _ rfl hp r1⟩
  | _ => cases e
noncomputable def asInts : List D → Option (List Int)
  | [] => some []
  | .int i :: ds => (asInts ds).map (i :: ·)
  | _ :: _ => none
theorem asInts_ok {K : KG} {F : Hp} : ∀ {ds : List D} {ns : List Int} {vs : List V}, asInts ds = some ns → RepDs K F vs ds → vs = ns.map V.int
  | [], _, _, e, .nil => by cases e; rfl
  | d :: ds, ns, _, e, .cons h r => by
    cases d with
    | int i =>
      have e : (asInts ds).map (i :: ·) = some ns := e
      cases e2 : asInts ds with
      | none => rw [e2] at e; cases e
      | some ms =>
        rw [e2] at e
        cases e
        cases h
        rw [asInts_ok e2 r]
        rfl
    | _ => cases e
noncomputable def sumD : D → Option M
  | .lst xs => (asInts xs).map fun ns => .d (.int ns.sum)
  | _ => none
theorem cd_sum (hc : X.calm = true) : CallR X (.builtin "sum") (semC (kg X) (on1 sumD)) := call1 fun pins s σ H F v x us m Q I r l wx e wi => by
  cases x with
  | lst ds =>
    obtain ⟨a, vs, rfl, h1, r1⟩ := wx.list l
    have e : (asInts ds).map (fun ns => M.d (.int ns.sum)) = some m := e
    cases e2 : asInts ds with
    | none => rw [e2] at e; cases e
    | some ns =>
      rw [e2] at e
      cases e
      exact cr_sum hc pins s σ H _ us Q I r ⟨a, ns, rfl, .inl (by rw [← asInts_ok e2 r1]; exact h1), wi.int⟩
  | _ => cases e
end
/-! ### the law's end -/
/-- the script's list -/
noncomputable def scrD (ns : List Int) : D := .scr (ns.map .int)
theorem repDs_ints {K : KG} {F : Hp} : ∀ ns : List Int, RepDs K F (ns.map V.int) (ns.map D.int)
  | [] => .nil
  | n :: ns => .cons (.int n) (repDs_ints ns)
/-- a promise for each naming of classes -/
noncomputable def spA (K : PySem.W.Frag) (np : Nat) (g : List M → CR) : Sp := fun vs H Q E => ∀ cl, spD ⟨K, cl, none⟩ np g vs H Q E
theorem FnG.imp {P : Program} {w : World} {K : PySem.W.Frag} {mg : Str → Option Value} {base : Heap} {k : Nat} {f : Addr} {fd : FuncData} {ps : List Str} {sp sp' : Sp} (F : FnG P w K mg base k f fd ps sp)
    (h : ∀ vs H Q E, sp' vs H Q E → sp vs H Q E) : FnG P w K mg base k f fd ps sp' :=
  ⟨fun vs H Q E q => F.len vs H Q E (h _ _ _ _ q), fun A outer s H args us vs Q E hr he hb hv hs => F.run A outer s H args us vs Q E hr he hb hv (h _ _ _ _ hs)⟩
theorem FnG.all {P : Program} {w : World} {K : PySem.W.Frag} {mg : Str → Option Value} {base : Heap} {k np : Nat} {f : Addr} {fd : FuncData} {ps : List Str} {cl : Str → Option Addr} {g : List M → CR} (F : FnG P w K mg base k f fd ps (spD ⟨K, cl, none⟩ np g)) :
    FnG P w K mg base k f fd ps (spA K np g) := F.imp fun _ _ _ _ h => h cl
/-- what walk_of asks of the law's promise -/
theorem law_sp0 {K : KG} {g : List M → CR} {H : Hp} {a : Addr} {ns : List Int} (hH : L2.Only H) (hS : SqL K H a (ns.map V.int)) (hg : ∃ fin, g [.d (scrD ns)] = .ok (.d (.bl true)) fin) :
    spD K 1 g [.ref a] H (fun v _ => v = .bl true) fun _ _ _ => False := by
  obtain ⟨fin, hg⟩ := hg
  refine ⟨H, fun _ => none, [.d (scrD ns)], _, fin, rfl, rfl, ⟨Le.refl _, fun a q e => by cases e⟩, fun p m e => ?_, hg, fun v H' F' O' st bs rm rf => ?_⟩
  · cases p with
    | zero => simp at e; subst e; exact ⟨.ref a, by simp, .scr hS (repDs_ints ns)⟩
    | succ p => simp at e
  · cases (show RepD K F' v (.bl true) from rm)
    rfl
theorem law_sp {K : PySem.W.Frag} {g : List M → CR} {H : Hp} {a : Addr} {ns : List Int} (hH : L2.Only H) (hS : SqL K H a (ns.map V.int)) (hg : ∃ fin, g [.d (scrD ns)] = .ok (.d (.bl true)) fin) :
    spA K 1 g [.ref a] H (fun v _ => v = .bl true) fun _ _ _ => False := fun cl => law_sp0 (K := ⟨K, cl, none⟩) hH hS hg
/-- the law's call, from a promise that holds where no repr is under way -/
theorem law_callG {P : Program} {w : World} {K : PySem.W.Frag} {mg mb : Str → Option Value} {k : Nat} {fa a : Addr} {fd : FuncData} {x : Str} {sp : Sp} {s₁ : Shared} {vs : List Value} {ns : List Int}
    (KX : K.In s₁.heap) (hns : s₁.heap.Ns mainGlobals mg) (hb : s₁.heap.Ns builtinsNs mb) (hbb : ∀ x : Str, x ≠ "__name__" → mb x = bootBuiltins x) (hlim : s₁.heap.NoLimit) (hg : s₁.gens = #[])
    (ha : s₁.heap.get? a = some { cls := .type "list", data := .seq vs.toArray }) (hi : IntsAre vs ns) (hl : ns.length ≤ sizeLine) (hr : RoomG k callerA)
    (F : ∀ base : Heap, K.In base → base.Ns mainGlobals mg → FnG P w K mg base k fa fd [x] sp) (hbind : ∀ (s : Shared) (u : Value), BindsTo s fd ⟨[u], []⟩ [(x, u)])
    (hsp : ∀ H : Hp, L2.Only H → SqL K H a (ns.map V.int) → sp [.ref a] H (fun v _ => v = .bl true) fun _ _ _ => False) :
    codeAny (model P w) callerA (.call (.ref fa) ⟨[.ref a], []⟩) (fun r s' => r = .ok (.ret (.bool true)) ∧ OldK s₁.heap s'.heap ∧ s'.os = s₁.os ∧ AllBare s'.gens) s₁ := by
  have rv := L2.vals_ints hi
  have noB : ∀ b ∈ frs ([] : List Env), ∀ q : Prop, q := fun b z => absurd (show b ∈ ([] : List Addr) from z) (by simp)
  -- all from one abstract heap
  suffices h : ∃ H : Hp, L2.Only H ∧ SqL K H a (ns.map V.int) ∧ HOk P w H s₁.heap ∧ (∀ b, H b ≠ none → b = a ∧ K.lookup a = none) by
    obtain ⟨H, hO, hS, hok, hA⟩ := h
    have only : ∀ {b : Addr}, b ≠ a → H b = none := fun {b} n => by
      cases q : H b with
      | none => rfl
      | some u => exact absurd (hA b (by rw [q]; simp)).1 n
    have nsK : ∀ {b : Addr} {m : Str → Option Value}, s₁.heap.Ns b m → (hidT s₁.heap H).Ns b m := fun {b m} ⟨o, es, ep, e, d, r⟩ => by
      refine ⟨o, es, ep, hidT_get e (only fun z => ?_), d, r⟩
      rw [z, ha] at e
      cases e
      cases d
    have hKb : K.In (hidT s₁.heap H) := fun b o e => hidT_get (KX b o e) (by
      cases q : H b with
      | none => rfl
      | some u =>
        obtain ⟨rfl, z⟩ := hA b (by rw [q]; simp)
        rw [z] at e
        cases e)
    obtain ⟨mc, l1, l2⟩ := hlim
    have e0 : Env0 P w K mg (hidT s₁.heap H) callerA [] s₁ H :=
      ⟨rfl, ⟨hKb, nsK hns, ⟨mb, nsK hb, hbb⟩, ⟨mc, nsK l1, l2⟩⟩, fun b o e => of_hidT e, Nat.le_of_eq (hidT_size _ _), trivial, fun b z => noB b z _, hok, .of_eq hg⟩
    refine codeAny_mono ((F _ hKb (nsK hns)).run callerA [] s₁ H ⟨[.ref a], []⟩ [.ref a] [.ref a] _ _ hr e0 (hbind s₁ (.ref a)) (.cons rfl .nil) (hsp H hO hS)) fun r s' h => ?_
    cases r with
    | error e => exact False.elim h
    | ok fl =>
      cases fl with
      | next => exact False.elim h
      | brk => exact False.elim h
      | cont => exact False.elim h
      | ret u =>
        obtain ⟨v, H', os, bare, un, hok', r', rfl⟩ := h
        obtain rfl : u = Value.bool true := r'
        refine ⟨rfl, OldK.of_keep fun b o e => ?_, os, bare⟩
        rcases hO b with z | ⟨ob, xs, z⟩
        · exact un.keep b o e z (fun q => noB b q _) (by simp)
        · have e1 := (hok b _ z).1
          rw [e] at e1
          cases e1
          exact (hok' b _ (un.frzs b _ _ z)).1
  cases hk : K.lookup a with
  | some o =>
    have e := KX a o hk
    rw [ha] at e
    cases e
    exact ⟨fun _ => none, fun _ => .inl rfl, .inr ⟨_, vs.toArray, _, hk, rfl, rfl, rfl, by rw [List.size_toArray, hi.length]; exact hl, by simpa using rv⟩, fun b u z => absurd z (by intro q; cases q), fun b z => absurd rfl z⟩
  | none =>
    have at_ : ∀ b, (if b = a then some (HO.frz { cls := .type "list", data := .seq vs.toArray } (.lst (ns.map V.int))) else none) ≠ none → b = a := fun b z => by
      by_cases c : b = a
      · exact c
      · rw [if_neg c] at z; exact absurd rfl z
    refine ⟨fun b => if b = a then some (.frz { cls := .type "list", data := .seq vs.toArray } (.lst (ns.map V.int))) else none, fun b => ?_, .inl (.inr ⟨{ cls := .type "list", data := .seq vs.toArray }, if_pos rfl⟩), fun b u z => ?_, fun b z => ⟨at_ b z, rfl⟩⟩
    · by_cases c : b = a
      · exact .inr ⟨_, _, if_pos c⟩
      · exact .inl (if_neg c)
    · obtain rfl := at_ b (fun q => by have q2 := q.symm.trans z; cases q2)
      have z := (if_pos rfl).symm.trans z
      cases z
      exact ⟨ha, by rw [List.length_map]; exact hl, vs, _, rv, ha⟩
/-- what k_head leaves, from such a promise -/
theorem walk_g {l : PySem.W.OpenLaw} {n k : Nat} {q : Program} {loose : List Str} {XP : (Str → Option Value) → Heap → Prop} {YP : World → Heap → Prop} {d : DefRec} {K : Params → PySem.W.Frag} {sp : World → Sp} {x : Str}
    (hn : l.most = some n) (hn2 : n ≤ sizeLine) (hdf : d.params.defaults = []) (hr : RoomG k callerA)
    (hY : ∀ (w : World) (h : Heap), YP w h → (K w.params).In h)
    (F : ∀ (w : World) (mg : Str → Option Value) (fa : Addr) (h : Heap), (K w.params).In h → h.Ns mainGlobals mg → mg d.name = some (.ref fa) →
      ∃ fd : FuncData, (∀ (s : Shared) (u : Value), BindsTo s fd ⟨[u], []⟩ [(x, u)]) ∧
        ∀ base : Heap, (K w.params).In base → base.Ns mainGlobals mg → FnG l.prog w (K w.params) mg base k fa fd [x] (sp w))
    (hsp : ∀ (w : World) (H : Hp) (a : Addr) (ns : List Int), ns.length ≤ n → L2.Only H → SqL (K w.params) H a (ns.map V.int) → sp w [.ref a] H (fun v _ => v = .bl true) fun _ _ _ => False) :
    PySem.W.WalkO q loose XP YP l.row.toRowW d [] (fun f vs => PySem.call f vs) :=
  Att.attach_call hn hdf fun w s₀ s₁ mg mb fa o pm cd doc a vs ns G Y ho hd hcd hmg hobj hints hlen hg => by
    have KX := hY w _ Y
    obtain ⟨fd, hb, hF⟩ := F w mg fa _ KX G.T.g hmg
    exact law_callG KX G.T.g G.T.b G.T.builtins G.T.nolimit hg hobj hints (Nat.le_trans hlen hn2) hr hF hb (fun H hO hS => hsp w H a ns hlen hO hS)

noncomputable def kpl (l : List Bool) (i : Nat) : Bool := l.getD i false
theorem hu192 {A : Around} {k : Nat} (h : RoomG k A) : A.units + 192 < cLine := by have := h.rm.un; omega
noncomputable def GlobD (K : PySem.W.Frag) (mg : Str → Option Value) (x : Str) (d : D) : Prop := ∃ u v, mg x = some u ∧ RelV v u ∧ ∀ F, RepD (kg0 K mg) F v d
theorem de_g {X : Cx} {x : Str} {d : D} {pos : Pos} (hg : Gl X x) (h : GlobD X.K X.mg x d) (hd : (x == ("__debug__" : Str)) = false := by decide) : DE X (eC d) (.Name x pos) := by
  obtain ⟨u, v, hm, r, hr⟩ := h
  exact de_c (pe_glob hg hm r hd) fun F => RepD.cx (K := kg0 X.K X.mg) (K' := kg X) rfl rfl (hr F)
theorem globD_int {K : PySem.W.Frag} {mg : Str → Option Value} {x : Str} {i : Int} {t : Tok} (h : mg x = some (.int i t)) : GlobD K mg x (.int i) := ⟨_, .int i, h, ⟨t, rfl⟩, fun _ => .int i⟩
theorem fnD_zero {P : Program} {w : World} {K : PySem.W.Frag} {mg : Str → Option Value} {base : Heap} {n : Nat} {x qual : Str} {st : Stmt} {f : Addr} {fd : FuncData} {ps : List Str} (F : Fun K x qual st f fd) (m : mg x = some (.ref f)) (b : Binds K fd ps []) :
    FnD P w K mg base n x ps.length (fun _ => .no) := by
  refine ⟨f, fd, ps, rfl, ⟨fun vs H Q E ⟨_, _, _, _, _, h, _⟩ => h, fun A outer s H args us vs Q E _ _ _ _ h => ?_⟩, m, F.kp, b⟩
  obtain ⟨_, _, _, _, _, _, _, _, _, h, _⟩ := h
  cases h
@[simp] theorem at_nil (i : Nat) : SS.at [] i = none := (rfl)
@[simp] theorem at_zero (m : Option M) (S : SS) : SS.at (m :: S) 0 = m := (rfl)
@[simp] theorem at_succ (m : Option M) (S : SS) (i : Nat) : SS.at (m :: S) (i + 1) = SS.at S i := (rfl)
@[simp] theorem get_d (x : D) (S : SS) : Ov.get (.d x) S = some x := (rfl)
@[simp] theorem get_j (i : Nat) (S : SS) : Ov.get (.j i) S = (S.at i).bind M.vw := (rfl)
@[simp] theorem bind_ok {α β : Type} (a : α) (S : SS) (g : α → SS → R β) : R.bind (.ok a S) g = g a S := (rfl)
@[simp] theorem bind_ex {α β : Type} (a : Exn) (S : SS) (g : α → SS → R β) : R.bind (.ex a S) g = .ex a S := (rfl)
@[simp] theorem bind_no {α β : Type} (g : α → SS → R β) : R.bind .no g = .no := (rfl)
@[simp] theorem toD_d (x : D) : M.toD (.d x) = x := (rfl)
@[simp] theorem toD_lst (x : List D) : M.toD (.lst x) = .lst x := (rfl)
@[simp] theorem toD_dk (x : List (Key × D)) : M.toD (.dk x) = .dk x := (rfl)
@[simp] theorem toD_dt (x : List (List Key × D)) : M.toD (.dt x) = .dt x := (rfl)
@[simp] theorem toD_seq (x : List M) : M.toD (.seq x) = .lst (M.toDs x) := (rfl)
@[simp] theorem toD_box (x : List M) : M.toD (.box x) = .tup (M.toDs x) := (rfl)
@[simp] theorem toD_ob (c : Str) (ns : List Str) (x : List M) : M.toD (.ob c ns x) = .obj c (ns.zip (M.toDs x)) := (rfl)
@[simp] theorem toDs_nil : M.toDs [] = [] := (rfl)
@[simp] theorem toDs_cons (m : M) (ms : List M) : M.toDs (m :: ms) = m.toD :: M.toDs ms := (rfl)
@[simp] theorem vw_d (x : D) : M.vw (.d x) = some x := (rfl)
@[simp] theorem vw_lst (x : List D) : M.vw (.lst x) = some (.lst x) := (rfl)
@[simp] theorem vw_dk (x : List (Key × D)) : M.vw (.dk x) = some (.dk x) := (rfl)
@[simp] theorem vw_dt (x : List (List Key × D)) : M.vw (.dt x) = some (.dt x) := (rfl)
@[simp] theorem own_d (x : D) : M.own (.d x) = false := (rfl)
@[simp] theorem own_lst (x : List D) : M.own (.lst x) = true := (rfl)
@[simp] theorem own_dk (x : List (Key × D)) : M.own (.dk x) = true := (rfl)
@[simp] theorem own_dt (x : List (List Key × D)) : M.own (.dt x) = true := (rfl)
@[simp] theorem own_seq (x : List M) : M.own (.seq x) = true := (rfl)
@[simp] theorem own_box (x : List M) : M.own (.box x) = true := (rfl)
@[simp] theorem own_ob (c : Str) (ns : List Str) (x : List M) : M.own (.ob c ns x) = true := (rfl)
@[simp] theorem isL_lst (x : List D) : isL (some (.lst x)) = true := (rfl)
@[simp] theorem asB_bl (b : Bool) (S : SS) : asB (.d (.bl b)) S = .ok b S := (rfl)

/-- the words of expressions and statements, to be reckoned -/
@[simp] theorem eN_ap (i : Nat) (S : SS) : eN i S = match S.at i with | some _ => .ok (.j i) S | none => .no := (rfl)
@[simp] theorem eC_ap (d : D) (S : SS) : eC d S = .ok (.d d) S := (rfl)
@[simp] theorem eM_ap (f : FM) (S : SS) : eM f S = (f S).bind fun m S => .ok (.d m.toD) S := (rfl)
@[simp] theorem force_d (x : D) (S : SS) : force (.d x) S = some (x, S) := (rfl)
@[simp] theorem force_j (i : Nat) (S : SS) : force (.j i) S = match S.at i with | some m => some (m.toD, S.set i (some (.d m.toD))) | none => none := (rfl)
@[simp] theorem mE_ap (f : FE) (S : SS) : mE f S = (f S).bind fun o S => match force o S with | some (d, S') => .ok (.d d) S' | none => .no := (rfl)
@[simp] theorem onD_ap (g : D → D → Option M) (a b : Ov) (S : SS) : onD g a b S = match a.get S, b.get S with | some x, some y => (match g x y with | some m => .ok m S | none => .no) | _, _ => .no := (rfl)
@[simp] theorem mBin_ap (g : D → D → Option M) (fa fb : FE) (S : SS) : mBin g fa fb S = (fa S).bind fun a S => (fb S).bind fun b S => onD g a b S := (rfl)
@[simp] theorem tM_ap (f : FM) (S : SS) : tM f S = (f S).bind asB := (rfl)
@[simp] theorem tAnd_ap (f g : FB) (S : SS) : tAnd' f g S = (f S).bind fun c S => if c = true then g S else .ok false S := (rfl)
@[simp] theorem tOr_ap (f g : FB) (S : SS) : tOr' f g S = (f S).bind fun c S => if c = true then .ok true S else g S := (rfl)
@[simp] theorem tNot_ap (f : FB) (S : SS) : tNot' f S = (f S).bind fun c S => .ok (!c) S := (rfl)
@[simp] theorem vAnd_ap (f g : FM) (S : SS) : vAnd f g S = (f S).bind fun m S => (asB m S).bind fun c S => if c = true then g S else .ok (.d (.bl false)) S := (rfl)
@[simp] theorem vOr_ap (f g : FM) (S : SS) : vOr f g S = (f S).bind fun m S => (asB m S).bind fun c S => if c = true then .ok (.d (.bl true)) S else g S := (rfl)
@[simp] theorem vNot_ap (f : FM) (S : SS) : vNot f S = (f S).bind fun m S => (asB m S).bind fun c S => .ok (.d (.bl (!c))) S := (rfl)
@[simp] theorem aNil_ap (S : SS) : aNil S = .ok [] S := (rfl)
@[simp] theorem aCons_ap (f : FE) (g : FA) (S : SS) : aCons f g S = (f S).bind fun o S => (g S).bind fun os S => .ok (o :: os) S := (rfl)
@[simp] theorem forceAll_nil (S : SS) : forceAll [] S = some ([], S) := (rfl)
@[simp] theorem forceAll_cons (o : Ov) (os : List Ov) (S : SS) : forceAll (o :: os) S = match force o S with | some (d, S1) => (match forceAll os S1 with | some (ds, S2) => some (d :: ds, S2) | none => none) | none => none := (rfl)
@[simp] theorem dispF_ap (mk : List D → M) (os : List Ov) (S : SS) : dispF mk os S = match forceAll os S with | some (ds, S') => if ds.length ≤ 16777216 then .ok (mk ds) S' else .no | none => .no := (rfl)
@[simp] theorem mTup_ap (f : FA) (S : SS) : mTup f S = (f S).bind (dispF fun ds => .d (.tup ds)) := (rfl)
@[simp] theorem mLst_ap (f : FA) (S : SS) : mLst f S = (f S).bind (dispF fun ds => .lst ds) := (rfl)
@[simp] theorem mNeg_ap (f : FE) (S : SS) : mNeg f S = (f S).bind fun o S => match o.get S with | some (.int i) => .ok (.d (.int (-i))) S | _ => .no := (rfl)
@[simp] theorem mChain_ap (g g' : D → D → Option M) (fa fb fc : FE) (S : SS) : mChain g g' fa fb fc S = (fa S).bind fun a S => (fb S).bind fun b S => (onD g a b S).bind fun m S => (asB m S).bind fun k S =>
  if k = true then (fc S).bind fun c S => onD g' b c S else .ok (.d (.bl false)) S := (rfl)
@[simp] theorem pNo_ap (S : SS) : pNo S = .ok none S := (rfl)
@[simp] theorem pIx_ap (f : FE) (S : SS) : pIx f S = (f S).bind fun o S => match o.get S with | some (.int i) => .ok (some i) S | _ => .no := (rfl)
@[simp] theorem mSl_ap (f : FE) (l h : FP) (S : SS) : mSl f l h S = (f S).bind fun o S => (l S).bind fun lo S => (h S).bind fun hi S => match o.get S with
  | some x => (match sliceD lo hi x with | some m => .ok m S | none => .no)
  | none => .no := (rfl)
@[simp] theorem getAll_nil (S : SS) : getAll [] S = some [] := (rfl)
@[simp] theorem getAll_cons (o : Ov) (os : List Ov) (S : SS) : getAll (o :: os) S = match o.get S with | some d => (match getAll os S with | some ds => some (d :: ds) | none => none) | none => none := (rfl)
@[simp] theorem mBlt_ap (g : List D → Option M) (fas : FA) (S : SS) : mBlt g fas S = (fas S).bind fun os S => match getAll os S with | some ds => (match g ds with | some m => .ok m S | none => .no) | none => .no := (rfl)
@[simp] theorem on1_ap (g : D → Option M) (x : D) : on1 g [x] = g x := (rfl)
@[simp] theorem on2_ap (g : D → D → Option M) (x y : D) : on2 g [x, y] = g x y := (rfl)
@[simp] theorem lend_nil (S : SS) : lend [] S = some ([], S) := (rfl)
@[simp] theorem lend_d (x : D) (os : List Ov) (S : SS) : lend (.d x :: os) S = match lend os S with | some (ms, S') => some (.d x :: ms, S') | none => none := (rfl)
@[simp] theorem lend_j (i : Nat) (os : List Ov) (S : SS) : lend (.j i :: os) S = match S.at i with
    | some m => (match lend os (if m.own then S.set i none else S) with | some (ms, S') => some (m :: ms, S') | none => none)
    | none => none := (rfl)
@[simp] theorem back_nil (ms : List M) (fs : List (Option M)) (S : SS) : back [] ms fs S = S := by unfold back; rfl
@[simp] theorem back_d (x : D) (os : List Ov) (m : M) (ms : List M) (f : Option M) (fs : List (Option M)) (S : SS) : back (.d x :: os) (m :: ms) (f :: fs) S = back os ms fs S := (rfl)
@[simp] theorem back_j (i : Nat) (os : List Ov) (m : M) (ms : List M) (f : Option M) (fs : List (Option M)) (S : SS) : back (.j i :: os) (m :: ms) (f :: fs) S = back os ms fs (if m.own then S.set i f else S) := (rfl)
@[simp] theorem sNil_ap (S : SS) : sNil S = .ok .nx S := (rfl)
@[simp] theorem sSeq_ap (f g : FS) (S : SS) : sSeq f g S = (f S).bind fun fl S => match fl with | .nx => g S | .rt m => .ok (.rt m) S | .bk => .ok .bk S | .ct => .ok .ct S := (rfl)
@[simp] theorem sExpr_ap (f : FM) (S : SS) : sExpr f S = (f S).bind fun _ S => .ok .nx S := (rfl)
@[simp] theorem sRet_ap (f : FM) (S : SS) : sRet f S = (f S).bind fun m S => .ok (.rt m) S := (rfl)
@[simp] theorem sRetV_ap (i : Nat) (S : SS) : sRetV i S = match S.at i with | some m => .ok (.rt m) (S.set i none) | none => .no := (rfl)
@[simp] theorem sIf_ap (t : FB) (f g : FS) (S : SS) : sIf t f g S = (t S).bind fun c S => if c = true then f S else g S := (rfl)
@[simp] theorem sSet_ap (i : Nat) (f : FM) (S : SS) : sSet i f S = (f S).bind fun m S => .ok .nx (S.set i (some m)) := (rfl)
@[simp] theorem gN_ap (i : Nat) (d : D) (S : SS) : gN i d S = some (S.set i (some (.d d))) := (rfl)
@[simp] theorem gsNil_ap (S : SS) : gsNil [] S = some S := (rfl)
@[simp] theorem gsCons_ap (g : FG) (gs : FGs) (d : D) (ds : List D) (S : SS) : gsCons g gs (d :: ds) S = match g d S with | some S1 => gs ds S1 | none => none := (rfl)
@[simp] theorem gT_ap (n : Nat) (gs : FGs) (ds : List D) (S : SS) : gT n gs (.tup ds) S = if ds.length = n then gs ds S else none := (rfl)
@[simp] theorem sAsg_ap (f : FE) (g : FG) (S : SS) : sAsg f g S = (f S).bind fun o S => match force o S with
  | some (d, S1) => (match g d S1 with | some S2 => .ok .nx S2 | none => .no)
  | none => .no := (rfl)
@[simp] theorem iSeq_ap (f : FE) (S : SS) : iSeq f S = (f S).bind fun o S => match force o S with
  | some (.lst ds, S1) => .ok ds S1
  | some (.tup ds, S1) => .ok ds S1
  | some (.str x, S1) => .ok (strSeq x) S1
  | _ => .no := (rfl)
@[simp] theorem iEn_ap (f : FA) (S : SS) : iEn f S = (f S).bind fun os S => match forceAll os S with
  | some ([.lst xs], S2) => .ok (enumD xs) S2
  | _ => .no := (rfl)
@[simp] theorem sNo_ap (S : SS) : sNo S = .no := (rfl)
@[simp] theorem iRng1_ap (f : FE) (S : SS) : iRng1 f S = (f S).bind fun o S => match o.get S with
  | some (.int j) => if -4611686018427387904 ≤ j ∧ j < 4611686018427387904 then .ok (rangeD 0 j.toNat) S else .no
  | _ => .no := (rfl)
@[simp] theorem forL_nil (g : FG) (b : FS) (S : SS) : forL g b [] S = .ok .nx S := (rfl)
theorem forL_cons (g : FG) (b : FS) (d : D) (ds : List D) (S : SS) : forL g b (d :: ds) S = match g d S with
    | none => .no
    | some S1 => (b S1).bind fun fl S2 => match fl with
      | .nx => forL g b ds S2
      | .ct => forL g b ds S2
      | .bk => .ok .nx S2
      | .rt m => .ok (.rt m) S2 := (rfl)
@[simp] theorem sFor_ap (i : FI) (g : FG) (b : FS) (S : SS) : sFor i g b S = (i S).bind fun ds S => forL g b ds S := (rfl)
@[simp] theorem isLq_ap (j : Nat) (S : SS) : isLq j S = if isL (S.at j) = true then .ok () S else .no := (rfl)
@[simp] theorem mApp_ap (j : Nat) (f : FE) (S : SS) : mApp j f S = (isLq j S).bind fun _ S => (f S).bind fun o S => match force o S with
  | some (x, S1) => (match S1.at j with
    | some (.lst xs) => if xs.length < 16777216 then .ok (.d .non) (S1.set j (some (.lst (xs ++ [x])))) else .no
    | _ => .no)
  | none => .no := (rfl)
@[simp] theorem mPop_ap (j : Nat) (S : SS) : mPop j S = match S.at j with
  | some (.lst xs) => (match xs.getLast? with
    | some x => .ok (.d x) (S.set j (some (.lst xs.dropLast)))
    | none => .no)
  | _ => .no := (rfl)
@[simp] theorem putIx_ap (j : Nat) (k : D) (x : D) (S : SS) : putIx j k x S = match k, S.at j with
  | .int k, some (.lst xs) => (match ixN xs.length k with
    | some n => some (S.set j (some (.lst (xs.set n x))))
    | none => none)
  | _, _ => none := (rfl)
@[simp] theorem sSetIx_ap (j : Nat) (f fi : FE) (S : SS) : sSetIx j f fi S = (f S).bind fun o S => match force o S with
  | some (x, S1) => (isLq j S1).bind fun _ S1 => (fi S1).bind fun i S2 => (match i.get S2 with
    | some k => (match putIx j k x S2 with
      | some S3 => .ok .nx S3
      | none => .no)
    | none => .no)
  | none => .no := (rfl)
@[simp] theorem sAug_ap (i : Nat) (g : D → D → Option M) (f : FE) (S : SS) : sAug i g f S = match S.at i with
  | some (.d x) => (f S).bind fun o S => (match o.get S with
    | some y => (match g x y with
      | some (.d z) => .ok .nx (S.set i (some (.d z)))
      | _ => .no)
    | none => .no)
  | _ => .no := (rfl)
@[simp] theorem sAugIx_ap (j : Nat) (g : D → D → Option M) (fi f : FE) (S : SS) : sAugIx j g fi f S = (isLq j S).bind fun _ S => (fi S).bind fun oi S => match oi.get S, S.at j with
  | some (.int k), some (.lst xs) => (match atI xs k with
    | some old => (f S).bind fun o S => (match o.get S with
      | some y => (match g old y with
        | some (.d z) => (match putIx j (.int k) z S with
          | some S3 => .ok .nx S3
          | none => .no)
        | _ => .no)
      | none => .no)
    | none => .no)
  | _, _ => .no := (rfl)
@[simp] theorem addD_ii (i j : Int) : addD (.int i) (.int j) = some (.d (.int (i + j))) := (rfl)
@[simp] theorem addD_ss (x y : Str) : addD (.str x) (.str y) = if x.length + y.length ≤ 16777216 then some (.d (.str (x ++ y))) else none := (rfl)
@[simp] theorem addD_ll (x y : List D) : addD (.lst x) (.lst y) = if x.length + y.length ≤ 16777216 then some (.lst (x ++ y)) else none := (rfl)
@[simp] theorem addD_tt (x y : List D) : addD (.tup x) (.tup y) = if x.length + y.length ≤ 16777216 then some (.d (.tup (x ++ y))) else none := (rfl)
@[simp] theorem iaddD_ii (i j : Int) : iaddD (.int i) (.int j) = some (.d (.int (i + j))) := (rfl)
@[simp] theorem subD_ii (i j : Int) : subD (.int i) (.int j) = some (.d (.int (i - j))) := (rfl)
@[simp] theorem mulD_ii (i j : Int) : mulD (.int i) (.int j) = if mulOk i j = true then some (.d (.int (i * j))) else none := (rfl)
@[simp] theorem fdivD_ii (i j : Int) : fdivD (.int i) (.int j) = if divOk j = true then some (.d (.int (i.fdiv j))) else none := (rfl)
@[simp] theorem modD_ii (i j : Int) : modD (.int i) (.int j) = if j ≠ 0 then some (.d (.int (i.fmod j))) else none := (rfl)
@[simp] theorem powD_ii (i j : Int) : powD (.int i) (.int j) = if 0 ≤ j ∧ j ≤ 1000000 ∧ i.natAbs < 2 ^ 64 then some (.d (.int (i ^ j.toNat))) else none := (rfl)
@[simp] theorem ltD_ii (i j : Int) : ltD (.int i) (.int j) = some (.d (.bl (decide (i < j)))) := (rfl)
@[simp] theorem leD_ii (i j : Int) : leD (.int i) (.int j) = some (.d (.bl (decide (i ≤ j)))) := (rfl)
@[simp] theorem gtD_ii (i j : Int) : gtD (.int i) (.int j) = some (.d (.bl (decide (j < i)))) := (rfl)
@[simp] theorem geD_ii (i j : Int) : geD (.int i) (.int j) = some (.d (.bl (decide (j ≤ i)))) := (rfl)
@[simp] theorem eqD_ii (i j : Int) : eqD (.int i) (.int j) = some (.d (.bl (i == j))) := (rfl)
@[simp] theorem eqD_ss (i j : Str) : eqD (.str i) (.str j) = some (.d (.bl (i == j))) := (rfl)
@[simp] theorem eqD_bb (i j : Bool) : eqD (.bl i) (.bl j) = some (.d (.bl (i == j))) := (rfl)
@[simp] theorem neD_ii (i j : Int) : neD (.int i) (.int j) = some (.d (.bl (!(i == j)))) := (rfl)
@[simp] theorem neD_ss (i j : Str) : neD (.str i) (.str j) = some (.d (.bl (!(i == j)))) := (rfl)
@[simp] theorem ixD_l (xs : List D) (i : Int) : ixD (.lst xs) (.int i) = (atI xs i).map .d := (rfl)
@[simp] theorem ixD_t (xs : List D) (i : Int) : ixD (.tup xs) (.int i) = (atI xs i).map .d := (rfl)
@[simp] theorem lenD_l (xs : List D) : lenD (.lst xs) = some (.d (.int xs.length)) := (rfl)
@[simp] theorem lenD_t (xs : List D) : lenD (.tup xs) = some (.d (.int xs.length)) := (rfl)
@[simp] theorem lenD_c (xs : List D) : lenD (.scr xs) = some (.d (.int xs.length)) := (rfl)
theorem atI_nn {α : Type} (xs : List α) (i : Nat) : atI xs (i : Int) = xs[i]? := by
  unfold atI ixN
  rw [if_pos (by omega)]
  by_cases h : i < xs.length
  · rw [if_pos (by omega)]; simp
  · rw [if_neg (by omega)]; simp; omega
@[simp] theorem atI_2 {α : Type} (xs : List α) : atI xs (2 : Int) = xs[(2 : Nat)]? := atI_nn xs 2
@[simp] theorem atI_3 {α : Type} (xs : List α) : atI xs (3 : Int) = xs[(3 : Nat)]? := atI_nn xs 3
@[simp] theorem atI_4 {α : Type} (xs : List α) : atI xs (4 : Int) = xs[(4 : Nat)]? := atI_nn xs 4
@[simp] theorem atI_5 {α : Type} (xs : List α) : atI xs (5 : Int) = xs[(5 : Nat)]? := atI_nn xs 5
@[simp] theorem atI_6 {α : Type} (xs : List α) : atI xs (6 : Int) = xs[(6 : Nat)]? := atI_nn xs 6
@[simp] theorem atI_7 {α : Type} (xs : List α) : atI xs (7 : Int) = xs[(7 : Nat)]? := atI_nn xs 7
@[simp] theorem atI_8 {α : Type} (xs : List α) : atI xs (8 : Int) = xs[(8 : Nat)]? := atI_nn xs 8
@[simp] theorem atI_m1 {α : Type} (xs : List α) : atI xs (-1 : Int) = xs.getLast? := by
  unfold atI ixN
  cases xs with
  | nil => rfl
  | cons x xs =>
    rw [if_neg (by omega), if_pos (by simp; omega), List.getLast?_eq_getElem?]
    show (x :: xs)[((-1 : Int) + ((x :: xs).length : Int)).toNat]? = _
    congr 1
    simp
    omega
@[simp] theorem atI_zero {α : Type} (xs : List α) : atI xs (0 : Int) = xs[(0 : Nat)]? := atI_nn xs 0
@[simp] theorem atI_one {α : Type} (xs : List α) : atI xs (1 : Int) = xs[(1 : Nat)]? := atI_nn xs 1
theorem ixN_nn (n : Nat) (i : Nat) : ixN n (i : Int) = if i < n then some i else none := by
  unfold ixN
  rw [if_pos (by omega)]
  by_cases h : i < n
  · rw [if_pos (by omega), if_pos h]; simp
  · rw [if_neg (by omega), if_neg h]
@[simp] theorem ixN_2 (n : Nat) : ixN n (2 : Int) = if 2 < n then some 2 else none := ixN_nn n 2
@[simp] theorem ixN_3 (n : Nat) : ixN n (3 : Int) = if 3 < n then some 3 else none := ixN_nn n 3
@[simp] theorem ixN_4 (n : Nat) : ixN n (4 : Int) = if 4 < n then some 4 else none := ixN_nn n 4
@[simp] theorem ixN_5 (n : Nat) : ixN n (5 : Int) = if 5 < n then some 5 else none := ixN_nn n 5
@[simp] theorem ixN_6 (n : Nat) : ixN n (6 : Int) = if 6 < n then some 6 else none := ixN_nn n 6
@[simp] theorem ixN_7 (n : Nat) : ixN n (7 : Int) = if 7 < n then some 7 else none := ixN_nn n 7
@[simp] theorem ixN_8 (n : Nat) : ixN n (8 : Int) = if 8 < n then some 8 else none := ixN_nn n 8
@[simp] theorem ixN_zero (n : Nat) : ixN n (0 : Int) = if 0 < n then some 0 else none := ixN_nn n 0
@[simp] theorem ixN_one (n : Nat) : ixN n (1 : Int) = if 1 < n then some 1 else none := ixN_nn n 1
@[simp] theorem finOf_zero (kp : Nat → Bool) (S : SS) (i : Nat) : finOf kp S i 0 = [] := (rfl)
@[simp] theorem finOf_succ (kp : Nat → Bool) (S : SS) (i n : Nat) : finOf kp S i (n + 1) = (if kp i then S.at i else none) :: finOf kp S (i + 1) n := (rfl)
@[simp] theorem kpl_zero (b : Bool) (l : List Bool) : kpl (b :: l) 0 = b := (rfl)
@[simp] theorem kpl_succ (b : Bool) (l : List Bool) (i : Nat) : kpl (b :: l) (i + 1) = kpl l i := (rfl)
@[simp] theorem run_ap (np nl : Nat) (kp : Nat → Bool) (body : FS) (ms : List M) : runFn np nl kp body ms = if ms.length = np then (match body (ms.map some ++ List.replicate (nl - np) none) with
  | .ok (.rt m) S => .ok m (finOf kp S 0 np)
  | .ok .nx S => .ok (.d .non) (finOf kp S 0 np)
  | .ex x S => .ex x (finOf kp S 0 np)
  | _ => .no) else .no := (rfl)
theorem mulOk_r {i j : Int} (h : -18446744073709551616 < j ∧ j < 18446744073709551616) : mulOk i j = true := by unfold mulOk; simp; omega
theorem mulOk_l {i j : Int} (h : -18446744073709551616 < i ∧ i < 18446744073709551616) : mulOk i j = true := by unfold mulOk; simp; omega
theorem mulOk_modl {x j k : Int} (h : 0 < k ∧ k < 18446744073709551616) : mulOk (x % k) j = true := mulOk_l (by have := Int.emod_nonneg x (show k ≠ 0 by omega); have := Int.emod_lt_of_pos x h.1; omega)
theorem divOk_of {j : Int} (h0 : 0 < j) (h : j < 340282366920938463463374607431768211456) : divOk j = true := by unfold divOk; simp; omega
/-! ### comprehensions -/
theorem lcL_map {own : List Nat} {g : FG} {t : FB} {fe : FE} (p : D → Bool) (f : D → D) (S0 : SS) : ∀ (ds : List D) (S : SS) (acc : List D), wipeS S own = S0 →
    (∀ d ∈ ds, ∃ S1 S2, g d S0 = some S1 ∧ t S1 = .ok (p d) S2 ∧ (p d = false → wipeS S2 own = S0) ∧ (p d = true → ∃ o S3 S4, fe S2 = .ok o S3 ∧ force o S3 = some (f d, S4) ∧ wipeS S4 own = S0)) →
    acc.length + ds.length ≤ line → ∃ S', lcL own g t fe ds S acc = .ok (acc ++ (ds.filter p).map f) S' ∧ wipeS S' own = S0
  | [], S, acc, hS, _, _ => ⟨S, by simp [lcL], hS⟩
  | d :: ds, S, acc, hS, h, hl => by
    obtain ⟨S1, S2, h1, h2, h3, h4⟩ := h d (List.mem_cons_self ..)
    have hr := fun x hx => h x (List.mem_cons_of_mem _ hx)
    simp only [List.length_cons] at hl
    show ∃ S', (match g d (wipeS S own) with
      | none => R.no
      | some S1 => (t S1).bind fun b S2 => if b = true then (fe S2).bind fun o S3 => (match force o S3 with
          | some (x, S4) => if acc.length < line then lcL own g t fe ds S4 (acc ++ [x]) else .no
          | none => .no) else lcL own g t fe ds S2 acc) = _ ∧ wipeS S' own = S0
    rw [hS, h1]
    dsimp only
    rw [h2, bind_ok]
    cases hp : p d with
    | false =>
      rw [if_neg (by decide), List.filter_cons_of_neg (by rw [hp]; decide)]
      exact lcL_map p f S0 ds S2 acc (h3 hp) hr (by omega)
    | true =>
      obtain ⟨o, S3, S4, h5, h6, h7⟩ := h4 hp
      rw [if_pos rfl, h5, bind_ok, h6]
      dsimp only
      rw [if_pos (by omega), List.filter_cons_of_pos hp, List.map_cons]
      obtain ⟨S', e1, e2⟩ := lcL_map p f S0 ds S4 (acc ++ [f d]) h7 hr (by simp; omega)
      exact ⟨S', by rw [e1]; simp, e2⟩
theorem restS_wipe (S1 S2 : SS) : ∀ vs : List Nat, restS S1 (wipeS S2 vs) vs = restS S1 S2 vs := by
  intro vs
  have key : ∀ (vs : List Nat) (S S' : SS), S.length = S'.length → (∀ j, j ∉ vs → S[j]? = S'[j]?) → restS S1 S vs = restS S1 S' vs := by
    intro vs
    induction vs with
    | nil =>
      intro S S' _ h
      exact List.ext_getElem? fun j => h j (by simp)
    | cons v vs ih =>
      intro S S' hl h
      show (restS S1 S vs).set v _ = (restS S1 S' vs).set v _
      have e1 : ∀ (T : SS), (restS S1 T vs).set v (keepD (S1.at v)) = (restS S1 (T.set v none) vs).set v (keepD (S1.at v)) := by
        intro T
        apply List.ext_getElem?
        intro j
        by_cases hj : v = j
        · subst hj
          by_cases hlt : v < T.length
          · rw [List.getElem?_set_self (by rw [restS_len]; exact hlt), List.getElem?_set_self (by rw [restS_len, List.length_set]; exact hlt)]
          · rw [List.getElem?_eq_none (by rw [List.length_set, restS_len]; omega), List.getElem?_eq_none (by rw [List.length_set, restS_len, List.length_set]; omega)]
        · rw [List.getElem?_set_ne hj, List.getElem?_set_ne hj]
          have : ∀ (vs : List Nat) (T T' : SS), T.length = T'.length → T[j]? = T'[j]? → (restS S1 T vs)[j]? = (restS S1 T' vs)[j]? := by
            intro vs
            induction vs with
            | nil => intro T T' _ h; exact h
            | cons u vs ih2 =>
              intro T T' hl h
              show ((restS S1 T vs).set u _)[j]? = ((restS S1 T' vs).set u _)[j]?
              by_cases hu : u = j
              · subst hu
                by_cases hlt : u < T.length
                · rw [List.getElem?_set_self (by rw [restS_len]; exact hlt), List.getElem?_set_self (by rw [restS_len]; omega)]
                · rw [List.getElem?_eq_none (by rw [List.length_set, restS_len]; omega), List.getElem?_eq_none (by rw [List.length_set, restS_len]; omega)]
              · rw [List.getElem?_set_ne hu, List.getElem?_set_ne hu]
                exact ih2 T T' hl h
          exact this vs _ _ (by simp) (by rw [List.getElem?_set_ne hj])
      rw [e1 S, e1 S', ih (S.set v none) (S'.set v none) (by simp [hl]) (fun j hj => by
        by_cases hv : v = j
        · subst hv
          by_cases hlt : v < S.length
          · rw [List.getElem?_set_self hlt, List.getElem?_set_self (by omega)]
          · rw [List.getElem?_eq_none (by simp; omega), List.getElem?_eq_none (by simp; omega)]
        · rw [List.getElem?_set_ne hv, List.getElem?_set_ne hv]
          exact h j (by simp only [List.mem_cons, not_or]; exact ⟨fun e => hv e.symm, hj⟩))]
  refine key vs _ _ (wipeS_len _ _) fun j hj => ?_
  have : ∀ vs : List Nat, j ∉ vs → (wipeS S2 vs)[j]? = S2[j]? := by
    intro vs
    induction vs with
    | nil => intro _; rfl
    | cons v vs ih =>
      intro hj
      simp only [List.mem_cons, not_or] at hj
      show ((wipeS S2 vs).set v none)[j]? = _
      rw [List.getElem?_set_ne (fun e => hj.1 e.symm), ih hj.2]
  exact this vs hj
/-- a comprehension that leaves all else as it is -/
theorem mLc_map {own : List Nat} {fi : FI} {g : FG} {t : FB} {fe : FE} {S S1 : SS} {ds : List D} (p : D → Bool) (f : D → D) (h : fi S = .ok ds S1)
    (ht : ∀ d ∈ ds, ∃ S2 S3, g d (wipeS S1 own) = some S2 ∧ t S2 = .ok (p d) S3 ∧ (p d = false → wipeS S3 own = wipeS S1 own) ∧ (p d = true → ∃ o S4 S5, fe S3 = .ok o S4 ∧ force o S4 = some (f d, S5) ∧ wipeS S5 own = wipeS S1 own))
    (hl : ds.length ≤ line) : mLc own fi g t fe S = .ok (.lst ((ds.filter p).map f)) (restS S1 S1 own) := by
  unfold mLc
  rw [h, bind_ok]
  obtain ⟨S', e1, e2⟩ := lcL_map p f (wipeS S1 own) ds S1 [] rfl ht (by simpa using hl)
  rw [e1, bind_ok, List.nil_append]
  rw [← restS_wipe S1 S', e2, restS_wipe]

/-! ### numbers -/
theorem fmod_pos {a b : Int} (h : 0 < b) : a.fmod b = a % b := Int.fmod_eq_emod_of_nonneg a (by omega)
theorem fdiv_pos {a b : Int} (h : 0 < b) : a.fdiv b = a / b := Int.fdiv_eq_ediv_of_nonneg a (by omega)
theorem atI_ok {α : Type} {xs : List α} {i : Int} {x : α} (h0 : 0 ≤ i) (h : xs[i.toNat]? = some x) : atI xs i = some x := by
  have hl := (List.getElem?_eq_some_iff.mp h).1
  unfold atI ixN
  rw [if_pos h0, if_pos (by omega)]
  exact h

@[simp] theorem isi_ty (x : D) (n : String) : isiD x (.ty n) = if x.knd ≠ "" ∧ (n = "int" ∨ n = "bool" ∨ n = "str" ∨ n = "tuple" ∨ n = "list" ∨ n = "dict") then some (.d (.bl (isiK x.knd n))) else none := (rfl)
@[simp] theorem knd_int (i : Int) : D.knd (.int i) = "int" := (rfl)
@[simp] theorem knd_bl (i : Bool) : D.knd (.bl i) = "bool" := (rfl)
@[simp] theorem knd_str (i : Str) : D.knd (.str i) = "str" := (rfl)
@[simp] theorem knd_tup (i : List D) : D.knd (.tup i) = "tuple" := (rfl)
@[simp] theorem knd_lst (i : List D) : D.knd (.lst i) = "list" := (rfl)
@[simp] theorem eqD_ap (a b : D) : eqD a b = if eqOk a b = true then some (.d (.bl (D.eqb a b))) else none := (rfl)
@[simp] theorem neD_ap (a b : D) : neD a b = if eqOk a b = true then some (.d (.bl (!D.eqb a b))) else neD2 a b := (rfl)
@[simp] theorem neD2_c (x : D) (xs : List D) : neD2 (.lst (x :: xs)) (.lst []) = some (.d (.bl true)) := (rfl)
@[simp] theorem eqOk_ap (a b : D) : eqOk a b = (a.pl && b.pl && decide (min a.dep b.dep ≤ 190)) := (rfl)
@[simp] theorem pl_non : D.pl .non = true := (rfl)
@[simp] theorem pl_bl (b : Bool) : D.pl (.bl b) = true := (rfl)
@[simp] theorem pl_int (b : Int) : D.pl (.int b) = true := (rfl)
@[simp] theorem pl_str (b : Str) : D.pl (.str b) = true := (rfl)
@[simp] theorem pl_tup (b : List D) : D.pl (.tup b) = D.pls b := (rfl)
@[simp] theorem pl_lst (b : List D) : D.pl (.lst b) = D.pls b := (rfl)
@[simp] theorem pls_nil : D.pls [] = true := (rfl)
@[simp] theorem pls_cons (x : D) (xs : List D) : D.pls (x :: xs) = (D.pl x && D.pls xs) := (rfl)
@[simp] theorem dep_non : D.dep .non = 0 := (rfl)
@[simp] theorem dep_bl (b : Bool) : D.dep (.bl b) = 0 := (rfl)
@[simp] theorem dep_int (b : Int) : D.dep (.int b) = 0 := (rfl)
@[simp] theorem dep_str (b : Str) : D.dep (.str b) = 0 := (rfl)
@[simp] theorem dep_tup (b : List D) : D.dep (.tup b) = D.deps b + 1 := (rfl)
@[simp] theorem dep_lst (b : List D) : D.dep (.lst b) = D.deps b + 1 := (rfl)
@[simp] theorem deps_nil : D.deps [] = 0 := (rfl)
@[simp] theorem deps_cons (x : D) (xs : List D) : D.deps (x :: xs) = max (D.dep x) (D.deps xs) := (rfl)
@[simp] theorem eqb_ii (i j : Int) : D.eqb (.int i) (.int j) = (i == j) := (rfl)
@[simp] theorem eqb_ib (i : Int) (j : Bool) : D.eqb (.int i) (.bl j) = (i == (if j then 1 else 0)) := (rfl)
@[simp] theorem eqb_bi (i : Bool) (j : Int) : D.eqb (.bl i) (.int j) = ((if i then 1 else 0) == j) := (rfl)
@[simp] theorem eqb_bb (i j : Bool) : D.eqb (.bl i) (.bl j) = (i == j) := (rfl)
@[simp] theorem eqb_ss (i j : Str) : D.eqb (.str i) (.str j) = (i == j) := (rfl)
@[simp] theorem eqb_si (i : Str) (j : Int) : D.eqb (.str i) (.int j) = false := (rfl)
@[simp] theorem eqb_sb (i : Str) (j : Bool) : D.eqb (.str i) (.bl j) = false := (rfl)
@[simp] theorem eqb_is (i : Int) (j : Str) : D.eqb (.int i) (.str j) = false := (rfl)
@[simp] theorem eqb_tt (i j : List D) : D.eqb (.tup i) (.tup j) = D.eqbs i j := (rfl)
@[simp] theorem eqb_ll (i j : List D) : D.eqb (.lst i) (.lst j) = D.eqbs i j := (rfl)
@[simp] theorem eqb_tl (i j : List D) : D.eqb (.tup i) (.lst j) = false := (rfl)
@[simp] theorem eqb_lt (i j : List D) : D.eqb (.lst i) (.tup j) = false := (rfl)
@[simp] theorem eqb_ti (i : List D) (j : Int) : D.eqb (.tup i) (.int j) = false := (rfl)
@[simp] theorem eqb_it (i : List D) (j : Int) : D.eqb (.int j) (.tup i) = false := (rfl)
@[simp] theorem eqb_ts (i : List D) (j : Str) : D.eqb (.tup i) (.str j) = false := (rfl)
@[simp] theorem eqb_st (i : List D) (j : Str) : D.eqb (.str j) (.tup i) = false := (rfl)
@[simp] theorem eqb_nn : D.eqb .non .non = true := (rfl)
@[simp] theorem eqb_ni (j : Int) : D.eqb .non (.int j) = false := (rfl)
@[simp] theorem eqb_ns (j : Str) : D.eqb .non (.str j) = false := (rfl)
@[simp] theorem eqb_nt (j : List D) : D.eqb .non (.tup j) = false := (rfl)
@[simp] theorem eqb_in (j : Int) : D.eqb (.int j) .non = false := (rfl)
@[simp] theorem eqb_sn (j : Str) : D.eqb (.str j) .non = false := (rfl)
@[simp] theorem eqb_tn (j : List D) : D.eqb (.tup j) .non = false := (rfl)
@[simp] theorem eqbs_nn : D.eqbs [] [] = true := (rfl)
@[simp] theorem eqbs_nc (x : D) (xs : List D) : D.eqbs [] (x :: xs) = false := (rfl)
@[simp] theorem eqbs_cn (x : D) (xs : List D) : D.eqbs (x :: xs) [] = false := (rfl)
@[simp] theorem eqbs_cc (x y : D) (xs ys : List D) : D.eqbs (x :: xs) (y :: ys) = (D.eqb x y && D.eqbs xs ys) := (rfl)

/-! ### what a reckoning comes to -/
noncomputable def R.wp0 {α : Type} (r : R α) (Q : α → SS → Prop) : Prop := match r with
  | .ok a S => Q a S
  | _ => False
noncomputable def CR.wp0 (r : CR) (Q : M → List (Option M) → Prop) : Prop := match r with
  | .ok a S => Q a S
  | _ => False
@[irreducible] noncomputable def R.wp {α : Type} (r : R α) (Q : α → SS → Prop) (_ : Ph Q := ⟨⟩) : Prop := R.wp0 r Q
@[irreducible] noncomputable def CR.wp (r : CR) (Q : M → List (Option M) → Prop) (_ : Ph Q := ⟨⟩) : Prop := CR.wp0 r Q
theorem R.wp_eq {α : Type} (r : R α) (Q : α → SS → Prop) (p : Ph Q) : R.wp r Q p = R.wp0 r Q := by unfold R.wp; rfl
theorem CR.wp_eq (r : CR) (Q : M → List (Option M) → Prop) (p : Ph Q) : CR.wp r Q p = CR.wp0 r Q := by unfold CR.wp; rfl
@[simp] theorem wp_ok {α : Type} (a : α) (S : SS) (Q : α → SS → Prop) : R.wp (.ok a S) Q = Q a S := by rw [R.wp_eq]; rfl
@[simp] theorem wp_no {α : Type} (Q : α → SS → Prop) : R.wp .no Q = False := by rw [R.wp_eq]; rfl
@[simp] theorem wp_ex {α : Type} (x : Exn) (S : SS) (Q : α → SS → Prop) : R.wp (.ex x S) Q = False := by rw [R.wp_eq]; rfl
@[simp] theorem cwp_ok (a : M) (S : List (Option M)) (Q : M → List (Option M) → Prop) : CR.wp (.ok a S) Q = Q a S := by rw [CR.wp_eq]; rfl
@[simp] theorem cwp_no (Q : M → List (Option M) → Prop) : CR.wp .no Q = False := by rw [CR.wp_eq]; rfl
@[simp] theorem cwp_ex (x : Exn) (S : List (Option M)) (Q : M → List (Option M) → Prop) : CR.wp (.ex x S) Q = False := by rw [CR.wp_eq]; rfl
@[simp] theorem wp_bind {α β : Type} (r : R α) (f : α → SS → R β) (Q : β → SS → Prop) : R.wp (r.bind f) Q = R.wp r (fun a S => R.wp (f a S) Q) := by
  cases r with
  | ok a S => rw [bind_ok, wp_ok]
  | ex _ _ => rw [bind_ex, wp_ex, wp_ex]
  | no => rw [bind_no, wp_no, wp_no]
theorem R.wp_mono {α : Type} {r : R α} {Q Q' : α → SS → Prop} (h : r.wp Q) (k : ∀ a S, Q a S → Q' a S) : r.wp Q' := by
  rw [R.wp_eq] at h ⊢
  cases r with
  | ok a S => exact k _ _ h
  | ex _ _ => exact h
  | no => exact h
theorem CR.wp_mono {r : CR} {Q Q' : M → List (Option M) → Prop} (h : r.wp Q) (k : ∀ a S, Q a S → Q' a S) : r.wp Q' := by
  rw [CR.wp_eq] at h ⊢
  cases r with
  | ok a S => exact k _ _ h
  | ex _ _ => exact h
  | no => exact h
theorem CR.wp_ok {r : CR} {Q : M → List (Option M) → Prop} (h : r.wp Q) : ∃ a S, r = .ok a S ∧ Q a S := by
  rw [CR.wp_eq] at h
  cases r with
  | ok a S => exact ⟨_, _, rfl, h⟩
  | ex _ _ => exact h.elim
  | no => exact h.elim
theorem R.wp_ok' {α : Type} {r : R α} {Q : α → SS → Prop} (h : r.wp Q) : ∃ a S, r = .ok a S ∧ Q a S := by
  rw [R.wp_eq] at h
  cases r with
  | ok a S => exact ⟨_, _, rfl, h⟩
  | ex _ _ => exact h.elim
  | no => exact h.elim
theorem CR.wp_of {r : CR} {Q : M → List (Option M) → Prop} {a : M} {S : List (Option M)} (e : r = .ok a S) (h : Q a S) : r.wp Q := by rw [e, cwp_ok]; exact h
theorem R.wp_of {α : Type} {r : R α} {Q : α → SS → Prop} {a : α} {S : SS} (e : r = .ok a S) (h : Q a S) : r.wp Q := by rw [e, Ev.wp_ok]; exact h
noncomputable def CR.toR (c : CR) (h : List (Option M) → SS) (_ : Ph h := ⟨⟩) : R M := match c with
  | .ok r fin => .ok r (h fin)
  | .ex x fin => .ex x (h fin)
  | .no => .no
@[simp] theorem toR_ok (a : M) (S : List (Option M)) (h : List (Option M) → SS) : CR.toR (.ok a S) h = .ok a (h S) := (rfl)
@[simp] theorem toR_no (h : List (Option M) → SS) : CR.toR .no h = .no := (rfl)
@[simp] theorem wp_toR (c : CR) (h : List (Option M) → SS) (Q : M → SS → Prop) : R.wp (c.toR h) Q = c.wp (fun r fin => Q r (h fin)) := by rw [R.wp_eq, CR.wp_eq]; cases c <;> rfl
@[simp] theorem bind_toR {β : Type} (c : CR) (h : List (Option M) → SS) (f : M → SS → R β) (Q : β → SS → Prop) : R.wp ((c.toR h).bind f) Q = c.wp (fun r fin => R.wp (f r (h fin)) Q) := by rw [wp_bind, wp_toR]
@[simp] theorem mCall_ap (g : List M → CR) (fas : FA) (S : SS) : mCall g fas S = (fas S).bind fun os S1 => match lend os S1 with
  | some (ms, S2) => (g ms).toR fun fin => back os ms fin S2
  | none => .no := (rfl)
/-- what a body's end is to its caller -/
noncomputable def endQ (np : Nat) (kp : Nat → Bool) (Q : M → List (Option M) → Prop) : Fl → SS → Prop := fun fl S => match fl with
  | .rt m => Q m (finOf kp S 0 np)
  | .nx => Q (.d .non) (finOf kp S 0 np)
  | _ => False
@[simp] theorem endQ_rt (np : Nat) (kp : Nat → Bool) (Q : M → List (Option M) → Prop) (m : M) (S : SS) : endQ np kp Q (.rt m) S = Q m (finOf kp S 0 np) := (rfl)
@[simp] theorem endQ_nx (np : Nat) (kp : Nat → Bool) (Q : M → List (Option M) → Prop) (S : SS) : endQ np kp Q .nx S = Q (.d .non) (finOf kp S 0 np) := (rfl)
theorem run_wp {np nl : Nat} {kp : Nat → Bool} {body : FS} {ms : List M} {Q : M → List (Option M) → Prop} (hl : ms.length = np) (h : (body (ms.map some ++ List.replicate (nl - np) none)).wp (endQ np kp Q)) : (runFn np nl kp body ms).wp Q := by
  rw [run_ap, if_pos hl]
  obtain ⟨fl, S, e, h⟩ := R.wp_ok' h
  rw [e]
  cases fl with
  | rt m => rw [CR.wp_eq]; exact h
  | nx => rw [CR.wp_eq]; exact h
  | bk => exact h.elim
  | ct => exact h.elim
/-- a walk, by what holds with what is left -/
theorem wp_forL {g : FG} {b : FS} {Q : Fl → SS → Prop} (I : List D → SS → Prop) (h0 : ∀ S, I [] S → Q .nx S)
    (h : ∀ d ds S, I (d :: ds) S → ∃ S1, g d S = some S1 ∧ (b S1).wp fun fl S2 => match fl with | .nx => I ds S2 | .ct => I ds S2 | .bk => Q .nx S2 | .rt m => Q (.rt m) S2) :
    ∀ (ds : List D) (S : SS), I ds S → (forL g b ds S).wp Q
  | [], S, hI => R.wp_of rfl (h0 S hI)
  | d :: ds, S, hI => by
    obtain ⟨S1, e1, h1⟩ := h d ds S hI
    rw [forL_cons, e1]
    dsimp only
    rw [wp_bind]
    refine R.wp_mono h1 fun fl S2 h2 => ?_
    cases fl with
    | nx => exact wp_forL I h0 h ds S2 h2
    | ct => exact wp_forL I h0 h ds S2 h2
    | bk => exact R.wp_of rfl h2
    | rt m => exact R.wp_of rfl h2
/-- a while, by what holds and a measure -/
theorem wp_while {c : FB} {b : FS} {Q : Fl → SS → Prop} (I : Nat → SS → Prop)
    (h : ∀ n S, I n S → (c S).wp fun k S1 => (k = true → (b S1).wp fun fl S2 => match fl with | .nx => ∃ m, m < n ∧ I m S2 | .ct => ∃ m, m < n ∧ I m S2 | .bk => Q .nx S2 | .rt m => Q (.rt m) S2) ∧ (k = false → Q .nx S1)) (n : Nat) : ∀ S, I n S → (sWhile c b S).wp Q := by
  induction n using Nat.strongRecOn with
  | ind n ih =>
    intro S hI
    rw [sWhile_eq, wp_bind]
    refine R.wp_mono (h n S hI) fun k S1 h1 => ?_
    cases k with
    | false => exact R.wp_of rfl (h1.2 rfl)
    | true =>
      rw [if_pos rfl, wp_bind]
      refine R.wp_mono (h1.1 rfl) fun fl S2 h2 => ?_
      cases fl with
      | nx => obtain ⟨m, hm, hI⟩ := h2; exact ih m hm S2 hI
      | ct => obtain ⟨m, hm, hI⟩ := h2; exact ih m hm S2 hI
      | bk => exact R.wp_of rfl h2
      | rt m => exact R.wp_of rfl h2
noncomputable def b__law_bag (call : Str → List M → CR) : FS :=
  (sRet (mLst (aCons (eC (.int 0)) (aCons (eC (.int 1234567891)) (aCons (eC (.int 0)) (aCons (eM (mLc [1] (iSeq (eM (mSl (eN 0) pNo (pIx (eC (.int 63)))))) (gN 1) tTrue (eM (mBlt (on1 absD) (aCons (eN 1) aNil))))) aNil))))))
noncomputable def g__law_bag (call : Str → List M → CR) : List M → CR := runFn 1 2 (kpl [true]) (b__law_bag call)
noncomputable def b__law_take (call : Str → List M → CR) : FS :=
  (sSeq (sIf (tM (mBin eqD (eM (mBin ixD (eN 0) (eC (.int 0)))) (eC (.int 0))))
    (sSeq (sSet 4 (mE (eC (.int 0))))
  (sSeq (sIf (tM (mBin ltD (eM (mBin ixD (eN 0) (eC (.int 2)))) (eM (mBlt (on1 lenD) (aCons (eM (mBin ixD (eN 0) (eC (.int 3)))) aNil)))))
    (sSet 4 (mBin ixD (eM (mBin ixD (eN 0) (eC (.int 3)))) (eM (mBin ixD (eN 0) (eC (.int 2))))))
    sNil)
  (sSeq (sAugIx 0 iaddD (eC (.int 2)) (eC (.int 1)))
  (sSeq (sIf (tM (mBin geD (eN 4) (eC (.int 1000000000000000000))))
    (sSetIx 0 (eN 4) (eC (.int 0)))
    sNil)
  (sSetIx 0 (eM (mBin modD (eM (mBin addD (eM (mBin addD (eM (mBin mulD (eM (mBin ixD (eN 0) (eC (.int 1)))) (eC (.int 48271)))) (eM (mBin modD (eN 4) (eC (.int 2147483647)))))) (eM (mBin mulD (eC (.int 7919)) (eM (mBin ixD (eN 0) (eC (.int 2)))))))) (eC (.int 2147483647)))) (eC (.int 1)))))))
    sNil)
  (sSeq (sIf (tM (mBin gtD (eM (mBin ixD (eN 0) (eC (.int 0)))) (eC (.int 0))))
    (sSeq (sSet 5 (mBin modD (eM (mBin ixD (eN 0) (eC (.int 0)))) (eN 1)))
  (sSeq (sSetIx 0 (eM (mBin fdivD (eM (mBin ixD (eN 0) (eC (.int 0)))) (eN 1))) (eC (.int 0)))
  (sRetV 5)))
    sNil)
  (sSeq (sSet 2 (mBin modD (eM (mBin mulD (eM (mBin addD (eM (mBin ixD (eN 0) (eC (.int 1)))) (eC (.int 1)))) (eC (.int 39373)))) (eC (.int 1000000007))))
  (sSeq (sSet 3 (mBin modD (eM (mBin mulD (eM (mBin modD (eM (mBin mulD (eN 2) (eN 2))) (eC (.int 998244353)))) (eC (.int 30011)))) (eC (.int 998244353))))
  (sSeq (sIf (tM (mBin gtD (eN 1) (eC (.int 1000000))))
    (sRet (mBin modD (eM (mBin addD (eM (mBin mulD (eN 3) (eC (.int 1000000007)))) (eN 2))) (eN 1)))
    sNil)
  (sRet (mBin modD (eM (mBin fdivD (eN 3) (eC (.int 7)))) (eN 1))))))))
noncomputable def g__law_take (call : Str → List M → CR) : List M → CR := runFn 2 6 (kpl [true, true]) (b__law_take call)
/-- the drawer of a law's numbers -/
structure Bag where
  a : Int
  b : Int
  c : Int
  xs : List Int
structure Bag.Ok (g : Bag) : Prop where
  a0 : 0 ≤ g.a
  b0 : 0 ≤ g.b
  b1 : g.b < 2147483647
  c0 : 0 ≤ g.c
  xn : ∀ x ∈ g.xs, 0 ≤ x
noncomputable def Bag.enc (g : Bag) : M := .lst [.int g.a, .int g.b, .int g.c, .lst (g.xs.map .int)]
theorem bag_eq (call : Str → List M → CR) (ns : List Int) (hn : ns.length ≤ 63) : ∃ g : Bag, g.Ok ∧ g__law_bag call [.d (scrD ns)] = .ok g.enc [some (.d (scrD ns))] := by
  refine ⟨⟨0, 1234567891, 0, (ns.take 63).map fun i => if i < 0 then -i else i⟩, ⟨Int.le_refl 0, by show (0 : Int) ≤ 1234567891; decide, by show (1234567891 : Int) < 2147483647; decide, Int.le_refl 0, ?_⟩, ?_⟩
  · intro x hx
    simp only [List.mem_map] at hx
    obtain ⟨y, _, rfl⟩ := hx
    split <;> omega
  · have hcut : cutD (ns.map D.int) none (some 63) = (ns.take 63).map D.int := by
      unfold cutD HT.sIx
      simp
    have e1 : (iSeq (eM (mSl (eN 0) pNo (pIx (eC (.int 63)))))) [some (.d (scrD ns)), none] = .ok ((ns.take 63).map D.int) [some (.d (scrD ns)), none] := by
      simp [iSeq, eM, mSl, eN, pNo, pIx, eC, scrD, sliceD, hcut, force]
    have e2 := mLc_map (own := [1]) (g := gN 1) (t := tTrue) (fe := eM (mBlt (on1 absD) (aCons (eN 1) aNil))) (fun _ => true) (fun d => match d with | .int i => .int (if i < 0 then -i else i) | d => d) e1 (by
      intro d hd
      simp only [List.mem_map] at hd
      obtain ⟨i, _, rfl⟩ := hd
      exact ⟨_, _, rfl, rfl, (fun h => by cases h), (fun _ => ⟨_, _, _, rfl, rfl, rfl⟩)⟩) (by simp [line]; omega)
    have e3 : (fun d => match d with | D.int i => D.int (if i < 0 then -i else i) | d => d) ∘ D.int = D.int ∘ fun i => if i < 0 then -i else i := rfl
    rw [show (fun _ : D => true) = fun _ => true from rfl, List.filter_eq_self.mpr (fun _ _ => rfl), List.map_map, e3, ← List.map_map] at e2
    unfold g__law_bag b__law_bag
    simp -dsimp [List.replicate, e2, Bag.enc, restS, wipeS, keepD]
/-- a cell is drawn when the drawer is empty -/
noncomputable def Bag.cell (g : Bag) : Int := if g.c < g.xs.length then g.xs.getD g.c.toNat 0 else 0
noncomputable def Bag.fill (g : Bag) : Bag := if g.a = 0 then ⟨if 1000000000000000000 ≤ g.cell then g.cell else 0, (g.b * 48271 + g.cell % 2147483647 + 7919 * (g.c + 1)) % 2147483647, g.c + 1, g.xs⟩ else g
noncomputable def Bag.fst (g : Bag) : Int := (g.b + 1) * 39373 % 1000000007
noncomputable def Bag.snd (g : Bag) : Int := g.fst * g.fst % 998244353 * 30011 % 998244353
noncomputable def Bag.val (g : Bag) (m : Int) : Int := if 0 < g.a then g.a % m else if 1000000 < m then (g.snd * 1000000007 + g.fst) % m else g.snd / 7 % m
noncomputable def Bag.left (g : Bag) (m : Int) : Bag := if 0 < g.a then { g with a := g.a / m } else g
theorem Bag.fill_ok {g : Bag} (h : g.Ok) : g.fill.Ok := by
  obtain ⟨a, b, c, xs⟩ := g
  obtain ⟨ha, hb, hb1, hc, hx⟩ := h
  dsimp only at ha hb hb1 hc hx
  unfold Bag.fill
  split
  · refine ⟨?_, ?_, ?_, ?_, hx⟩
    · dsimp only; split <;> omega
    · dsimp only; omega
    · dsimp only; omega
    · dsimp only; omega
  · exact ⟨ha, hb, hb1, hc, hx⟩
theorem Bag.left_ok {g : Bag} {m : Int} (h : g.Ok) (hm : 0 < m) : (g.left m).Ok := by
  unfold Bag.left
  split
  · exact ⟨Int.ediv_nonneg h.a0 (by omega), h.b0, h.b1, h.c0, h.xn⟩
  · exact h
theorem Bag.val_rng {g : Bag} {m : Int} (hm : 0 < m) : 0 ≤ g.val m ∧ g.val m < m := by
  have k : ∀ x : Int, 0 ≤ x % m ∧ x % m < m := fun x => ⟨Int.emod_nonneg x (by omega), Int.emod_lt_of_pos x hm⟩
  unfold Bag.val
  split
  · exact k _
  · split <;> exact k _
theorem take_eq (call : Str → List M → CR) (g : Bag) (m : Int) (hg : g.Ok) (h0 : 0 < m) (h1 : m < 340282366920938463463374607431768211456) :
    g__law_take call [g.enc, .d (.int m)] = .ok (.d (.int (g.fill.val m))) [some (g.fill.left m).enc, some (.d (.int m))] := by
  obtain ⟨a, b, c, xs⟩ := g
  obtain ⟨ha, hb, hb1, hc, hx⟩ := hg
  dsimp only at ha hb hb1 hc hx
  have hm : m ≠ 0 := by omega
  have hdm : divOk m = true := divOk_of h0 h1
  have hd7 : divOk 7 = true := by decide
  unfold g__law_take
  by_cases ha0 : a = 0
  · subst ha0
    have hcell : 0 ≤ (Bag.mk 0 b c xs).cell := by
      unfold Bag.cell
      dsimp only
      split
      · rename_i hl
        rw [List.getD_eq_getElem?_getD]
        cases e : xs[c.toNat]? with
        | none => simp
        | some y => simp; exact hx y (List.mem_of_getElem? e)
      · omega
    have hk : ∀ k : Int, 0 < k → k ≠ 0 := fun k h => by omega
    by_cases hcl : c < xs.length
    · have hat : atI (xs.map D.int) c = some (.int (Bag.mk 0 b c xs).cell) := by
        refine atI_ok hc ?_
        unfold Bag.cell
        dsimp only
        rw [if_pos hcl, List.getElem?_map, List.getD_eq_getElem?_getD]
        have : c.toNat < xs.length := by omega
        rw [List.getElem?_eq_getElem this]
        rfl
      by_cases hbig : 1000000000000000000 ≤ (Bag.mk 0 b c xs).cell
      · have hpos : 0 < (Bag.mk 0 b c xs).cell := by omega
        simp -dsimp [List.replicate, b__law_take, Bag.enc, Bag.fill, Bag.val, Bag.left, hm, hdm, fmod_pos h0, fdiv_pos h0, hcl, hat, hbig, hpos, fmod_pos (show (0 : Int) < 2147483647 by decide), mulOk_r, mulOk_l]
      · have hz : Bag.cell ⟨0, b, c, xs⟩ = Bag.cell ⟨0, b, c, xs⟩ := rfl
        by_cases hbm : 1000000 < m
        · simp -dsimp [List.replicate, b__law_take, Bag.enc, Bag.fill, Bag.val, Bag.left, Bag.fst, Bag.snd, hm, hdm, hd7, fmod_pos h0, fdiv_pos h0, hcl, hat, hbig, fmod_pos (show (0 : Int) < 2147483647 by decide), fmod_pos (show (0 : Int) < 1000000007 by decide), fmod_pos (show (0 : Int) < 998244353 by decide), fdiv_pos (show (0 : Int) < 7 by decide), mulOk_r, mulOk_l, mulOk_modl, hbm]
        · simp -dsimp [List.replicate, b__law_take, Bag.enc, Bag.fill, Bag.val, Bag.left, Bag.fst, Bag.snd, hm, hdm, hd7, fmod_pos h0, fdiv_pos h0, hcl, hat, hbig, fmod_pos (show (0 : Int) < 2147483647 by decide), fmod_pos (show (0 : Int) < 1000000007 by decide), fmod_pos (show (0 : Int) < 998244353 by decide), fdiv_pos (show (0 : Int) < 7 by decide), mulOk_r, mulOk_l, mulOk_modl, hbm]
    · have hz : Bag.cell ⟨0, b, c, xs⟩ = 0 := by unfold Bag.cell; dsimp only; rw [if_neg hcl]
      by_cases hbm : 1000000 < m
      · simp -dsimp [List.replicate, b__law_take, Bag.enc, Bag.fill, Bag.val, Bag.left, Bag.fst, Bag.snd, hm, hdm, hd7, fmod_pos h0, fdiv_pos h0, hcl, hz, fmod_pos (show (0 : Int) < 2147483647 by decide), fmod_pos (show (0 : Int) < 1000000007 by decide), fmod_pos (show (0 : Int) < 998244353 by decide), fdiv_pos (show (0 : Int) < 7 by decide), mulOk_r, mulOk_l, mulOk_modl, hbm]
      · simp -dsimp [List.replicate, b__law_take, Bag.enc, Bag.fill, Bag.val, Bag.left, Bag.fst, Bag.snd, hm, hdm, hd7, fmod_pos h0, fdiv_pos h0, hcl, hz, fmod_pos (show (0 : Int) < 2147483647 by decide), fmod_pos (show (0 : Int) < 1000000007 by decide), fmod_pos (show (0 : Int) < 998244353 by decide), fdiv_pos (show (0 : Int) < 7 by decide), mulOk_r, mulOk_l, mulOk_modl, hbm]
  · have h : 0 < a := by omega
    simp -dsimp [List.replicate, b__law_take, Bag.enc, Bag.fill, Bag.val, Bag.left, ha0, h, hm, hdm, fmod_pos h0, fdiv_pos h0]
@[simp] theorem own_enc (g : Bag) : M.own g.enc = true := rfl
/-- what a draw gives -/
theorem take_wp (call : Str → List M → CR) (g : Bag) (m : Int) (hg : g.Ok) (h0 : 0 < m) (h1 : m < 340282366920938463463374607431768211456) {Q : M → List (Option M) → Prop}
    (h : ∀ (v : Int) (g' : Bag), 0 ≤ v → v < m → g'.Ok → Q (.d (.int v)) [some g'.enc, some (.d (.int m))]) : (g__law_take call [g.enc, .d (.int m)]).wp Q := by
  rw [take_eq call g m hg h0 h1, cwp_ok]
  have v := Bag.val_rng (g := g.fill) h0
  exact h _ _ v.1 v.2 (Bag.left_ok (Bag.fill_ok hg) h0)

theorem rangeD_succ (lo : Int) (n : Nat) : rangeD lo (n + 1) = .int lo :: rangeD (lo + 1) n := by
  unfold rangeD
  rw [List.range_succ_eq_map, List.map_cons, List.map_map]
  congr 1
  · simp
  · apply List.map_congr_left
    intro k _
    simp only [Function.comp]
    congr 1
    omega
/-- a walk over a range, by what holds ahead of turn k -/
theorem wp_range {g : FG} {b : FS} {Q : Fl → SS → Prop} (I : Nat → SS → Prop) : ∀ (n : Nat) (lo : Int) (o : Nat) (S : SS), I o S →
    (∀ k, o ≤ k → k < o + n → ∀ S, I k S → ∃ S1, g (.int (lo + ((k - o : Nat) : Int))) S = some S1 ∧ (b S1).wp fun fl S2 => match fl with | .nx => I (k + 1) S2 | .ct => I (k + 1) S2 | .bk => Q .nx S2 | .rt m => Q (.rt m) S2) →
    (∀ S, I (o + n) S → Q .nx S) → (forL g b (rangeD lo n) S).wp Q
  | 0, lo, o, S, h0, h, hn => R.wp_of rfl (hn S h0)
  | n + 1, lo, o, S, h0, h, hn => by
    rw [rangeD_succ, forL_cons]
    obtain ⟨S1, e1, h1⟩ := h o (Nat.le_refl _) (by omega) S h0
    simp only [Nat.sub_self, Int.ofNat_zero, Int.natCast_zero, Int.add_zero] at e1
    rw [e1]
    dsimp only
    rw [wp_bind]
    have next : ∀ S2, I (o + 1) S2 → (forL g b (rangeD (lo + 1) n) S2).wp Q := fun S2 h2 => by
      refine wp_range I n (lo + 1) (o + 1) S2 h2 (fun k hk1 hk2 S hk => ?_) (fun S hS => hn S (by rw [show o + (n + 1) = o + 1 + n by omega]; exact hS))
      have := h k (by omega) (by omega) S hk
      rw [show lo + ((k - o : Nat) : Int) = lo + 1 + ((k - (o + 1) : Nat) : Int) by omega] at this
      exact this
    refine R.wp_mono h1 fun fl S2 h2 => ?_
    cases fl with
    | nx => exact next S2 h2
    | ct => exact next S2 h2
    | bk => exact R.wp_of rfl h2
    | rt m => exact R.wp_of rfl h2
/-- a comprehension that leaves all else as it is -/
theorem mLc_mapP {own : List Nat} {fi : FI} {g : FG} {fe : FE} {S S1 : SS} {ds : List D} (f : D → D) (h : fi S = .ok ds S1)
    (hs : ∀ d ∈ ds, ∃ S2, g d (wipeS S1 own) = some S2 ∧ (fe S2).wp fun o S4 => ∃ S5, force o S4 = some (f d, S5) ∧ wipeS S5 own = wipeS S1 own)
    (hl : ds.length ≤ line) : mLc own fi g tTrue fe S = .ok (.lst (ds.map f)) (restS S1 S1 own) := by
  have := mLc_map (own := own) (g := g) (t := tTrue) (fe := fe) (fun _ => true) f h (fun d hd => by
    obtain ⟨S2, h1, h2⟩ := hs d hd
    refine ⟨S2, S2, h1, rfl, (fun h => by cases h), fun _ => ?_⟩
    obtain ⟨o, S4, e, h2⟩ := R.wp_ok' h2
    obtain ⟨S5, h3, h4⟩ := h2
    exact ⟨o, S4, S5, e, h3, h4⟩) hl
  rw [this, List.filter_eq_self.mpr (fun _ _ => rfl)]
@[simp] theorem absD_i (i : Int) : absD (.int i) = some (.d (.int (if i < 0 then -i else i))) := (rfl)
@[simp] theorem maxD_ii (i j : Int) : maxD (.int i) (.int j) = some (.d (.int (if j > i then j else i))) := (rfl)
@[simp] theorem intD_i (i : Int) : intD (.int i) = some (.d (.int i)) := (rfl)
@[simp] theorem intD_b (b : Bool) : intD (.bl b) = some (.d (.int (if b then 1 else 0))) := (rfl)
@[simp] theorem listD_l (xs : List D) : listD (.lst xs) = some (.lst xs) := (rfl)
@[simp] theorem listD_t (xs : List D) : listD (.tup xs) = some (.lst xs) := (rfl)
@[simp] theorem ixD_s (z : Str) (i : Int) : ixD (.str z) (.int i) = if z.length ≤ line then (atI z.cps.toList i).map fun c => .d (.str ⟨#[c]⟩) else none := (rfl)
@[simp] theorem sliceD_s (z : Str) (lo hi : Option Int) : sliceD lo hi (.str z) = if z.length ≤ line then some (.d (.str (cutS z lo hi))) else none := (rfl)
@[simp] theorem sliceD_l (z : List D) (lo hi : Option Int) : sliceD lo hi (.lst z) = some (.lst (cutD z lo hi)) := (rfl)
@[simp] theorem sliceD_t (z : List D) (lo hi : Option Int) : sliceD lo hi (.tup z) = some (.d (.tup (cutD z lo hi))) := (rfl)
@[simp] theorem mulD_li (xs : List D) (k : Int) : mulD (.lst xs) (.int k) = if (-(2 ^ 63) ≤ k ∧ k < 2 ^ 63) ∧ xs.length * k.toNat ≤ line then some (.lst (List.replicate k.toNat xs).flatten) else none := (rfl)
@[simp] theorem line_v : line = 16777216 := by unfold line; rfl
@[simp] theorem eqb_bt (b : Bool) (i : List D) : D.eqb (.bl b) (.tup i) = false := (rfl)
@[simp] theorem eqb_tb (b : Bool) (i : List D) : D.eqb (.tup i) (.bl b) = false := (rfl)
@[simp] theorem knd_non : D.knd .non = "NoneType" := (rfl)

/-- numbers to 10^18 of either sign, truths, tuples of these -/
inductive Vl : Nat → D → Prop
  | int (k : Nat) (i : Int) : -1000000000000000000 ≤ i → i ≤ 1000000000000000000 → Vl k (.int i)
  | bl (k : Nat) (b : Bool) : Vl k (.bl b)
  | tup (k : Nat) (ds : List D) : ds.length ≤ 1000 → (∀ d ∈ ds, Vl k d) → Vl (k + 1) (.tup ds)
theorem Vl.mono {k k' : Nat} {d : D} (h : Vl k d) : k ≤ k' → Vl k' d := by
  induction h generalizing k' with
  | int k i h1 h2 => exact fun _ => .int _ _ h1 h2
  | bl k b => exact fun _ => .bl _ _
  | tup k ds hl h ih =>
    intro hk
    cases k' with
    | zero => omega
    | succ k' => exact .tup _ _ hl fun d hd => ih d hd (by omega)
theorem pls_of {ds : List D} (h : ∀ d ∈ ds, d.pl = true) : D.pls ds = true := by
  induction ds with
  | nil => rfl
  | cons x xs ih => rw [pls_cons, h x (List.mem_cons_self ..), ih fun d hd => h d (List.mem_cons_of_mem _ hd)]; rfl
theorem deps_of {ds : List D} {k : Nat} (h : ∀ d ∈ ds, d.dep ≤ k) : D.deps ds ≤ k := by
  induction ds with
  | nil => exact Nat.zero_le _
  | cons x xs ih =>
    rw [deps_cons]
    exact Nat.max_le.mpr ⟨h x (List.mem_cons_self ..), ih fun d hd => h d (List.mem_cons_of_mem _ hd)⟩
theorem Vl.pl {k : Nat} {d : D} (h : Vl k d) : d.pl = true := by
  induction h with
  | int k i h1 h2 => rfl
  | bl k b => rfl
  | tup k ds hl h ih => rw [pl_tup]; exact pls_of ih
theorem Vl.dep {k : Nat} {d : D} (h : Vl k d) : d.dep ≤ k := by
  induction h with
  | int k i h1 h2 => exact Nat.zero_le _
  | bl k b => exact Nat.zero_le _
  | tup k ds hl h ih => rw [dep_tup]; exact Nat.succ_le_succ (deps_of ih)
mutual
/-- the same value, kinds and all -/
noncomputable def D.sm : D → D → Bool
  | .tup xs, y => match y with
    | .tup ys => D.sms xs ys
    | _ => false
  | .int i, y => match y with
    | .int j => i == j
    | _ => false
  | .bl i, y => match y with
    | .bl j => i == j
    | _ => false
  | _, _ => false
noncomputable def D.sms : List D → List D → Bool
  | [], ys => match ys with
    | [] => true
    | _ :: _ => false
  | x :: xs, ys => match ys with
    | [] => false
    | y :: ys => D.sm x y && D.sms xs ys
end
@[simp] theorem sm_tt (xs ys : List D) : D.sm (.tup xs) (.tup ys) = D.sms xs ys := (rfl)
@[simp] theorem sm_ii (i j : Int) : D.sm (.int i) (.int j) = (i == j) := (rfl)
@[simp] theorem sm_bb (i j : Bool) : D.sm (.bl i) (.bl j) = (i == j) := (rfl)
@[simp] theorem sm_it (i : Int) (ys : List D) : D.sm (.int i) (.tup ys) = false := (rfl)
@[simp] theorem sm_ti (i : Int) (ys : List D) : D.sm (.tup ys) (.int i) = false := (rfl)
@[simp] theorem sm_bt (i : Bool) (ys : List D) : D.sm (.bl i) (.tup ys) = false := (rfl)
@[simp] theorem sm_tb (i : Bool) (ys : List D) : D.sm (.tup ys) (.bl i) = false := (rfl)
@[simp] theorem sm_ib (i : Int) (j : Bool) : D.sm (.int i) (.bl j) = false := (rfl)
@[simp] theorem sm_bi (i : Int) (j : Bool) : D.sm (.bl j) (.int i) = false := (rfl)
section
variable {X : Cx} {kp : Nat → Bool} {e a b c : Expr} {pos : Pos} {K : KG} {F : Hp}

/-- lo, lo - 1, .. -/
noncomputable def downD (lo : Int) (n : Nat) : List D := (List.range n).map fun (k : Nat) => .int (lo - (k : Int))
theorem walks_down {lo : Int} {n : Nat} : Walks K (Itc lo (-1) n) (downD lo n) F := by
  have hl : (downD lo n).length = n := by unfold downD; rw [List.length_map, List.length_range]
  refine ⟨fun i H F' l1 l2 hi => ?_, fun i H F' O σ S x H' rp l1 hi y => ?_, fun H F' l1 l2 => ?_⟩
  · rw [hl] at hi; exact hi
  · obtain ⟨e, y⟩ := y
    subst e y
    refine ⟨F', Stp.refl _ _ _, rp, fun d hd => ?_⟩
    unfold downD at hd
    rw [List.getElem?_map, List.getElem?_range (by rw [hl] at hi; exact hi)] at hd
    cases hd
    rw [show lo + (i : Int) * -1 = lo - (i : Int) by omega]
    exact .int _
  · show n ≤ (downD lo n).length
    rw [hl]; exact Nat.le_refl _
/-- range(a, b, -1) -/
noncomputable def iDown (f : FA) : FI := fun S => (f S).bind fun os S => match getAll os S with
  | some [.int i, .int j, .int c] => if c = -1 ∧ (-4611686018427387904 ≤ i ∧ i < 4611686018427387904) ∧ -4611686018427387904 ≤ j ∧ j < 4611686018427387904 then .ok (downD i (i - j).toNat) S else .no
  | _ => .no
theorem di_down {f : FA} {p : Pos} (hg : Gl X "range") (hm : X.mg "range" = none) (h : DA X f [a, b, c]) (hs : starEach [a, b, c] X.env = (false, eval a X.env) :: starEach [b, c] X.env := by rfl)
    (hn : (backTo pos (starEach [b, c] X.env)).any (fun x => x.1) = false := by rfl) : DI X (iDown f) (.Call (.Name "range" p) [a, b, c] [] pos) := fun tg => by
  refine PI.imp (pi_range3 hg hm h hs hn) fun σ H R' ⟨F, O, S, ds, S', r, hf, k⟩ => ?_
  obtain ⟨os, S1, h1, h2⟩ := R.bind_ok hf
  refine ⟨F, O, S, os, S1, r, h1, fun vs H1 F1 O1 st1 r1 ro => ?_⟩
  cases eg : getAll os S1 with
  | none => rw [eg] at h2; cases h2
  | some zs =>
    rw [eg] at h2
    have key : ∃ i j, zs = [.int i, .int j, .int (-1)] ∧ ((-4611686018427387904 ≤ i ∧ i < 4611686018427387904) ∧ -4611686018427387904 ≤ j ∧ j < 4611686018427387904) ∧ R.ok (downD i (i - j).toNat) S1 = R.ok ds S' := by
      split at h2
      · rename_i i j c e
        cases e
        split at h2
        · rename_i hc
          obtain ⟨rfl, hc⟩ := hc
          exact ⟨i, j, rfl, hc, h2⟩
        · cases h2
      · cases h2
    obtain ⟨i, j, rfl, hb, h2⟩ := key
    cases h2
    have vw := getAll_ok r1 ro eg
    match vs, vw with
    | [_, _, _], .cons v1 (.cons v2 (.cons v3 .nil)) =>
      obtain rfl := v1.int
      obtain rfl := v2.int
      obtain rfl := v3.int
      exact ⟨i, j, -1, _, rfl, RgC.neg hb.1.1 hb.1.2 hb.2.1 hb.2.2, k _ H1 F1 O1 st1 r1 walks_down⟩

end
/-- a, b = e1, e2 -/
noncomputable def sPar (i j : Nat) (f : FA) : FS := fun S => (f S).bind fun os S => match forceAll os S with
  | some ([x, y], S) => .ok .nx ((S.set i (some (.d x))).set j (some (.d y)))
  | _ => .no
section
variable {X : Cx} {kp : Nat → Bool} {a b : Expr} {pos : Pos}
theorem ds_par {i j : Nat} {x y : Str} {f : FA} {px py pt : Pos} {kt k2 : Nat} {pt2 : Pos} (hc : X.calm = true) (hN : X.N.Nodup) (hi : X.N[i]? = some x) (hj : X.N[j]? = some y) (hij : i ≠ j)
    (hx : X.env.scope.names.lookup x = some .local) (hy : X.env.scope.names.lookup y = some .local) (hki : kp i = false) (hkj : kp j = false) (h : DA X f [a, b])
    (hs : swappedStores [.Tuple [.Name x px, .Name y py] kt pt] (.Tuple [a, b] k2 pt2) X.env = pure (some [x, y]))
    (hw : swapsWithSole [.Tuple [.Name x px, .Name y py] kt pt] (.Tuple [a, b] k2 pt2) pos.line X.env = pure false := by rfl) :
    DS X kp (sPar i j f) (.Assign [.Tuple [.Name x px, .Name y py] kt pt] (.Tuple [a, b] k2 pt2) pos) := PS.imp (ps_par hc hN hi hj hij hx hy h hs hw) fun D σ H ⟨F, O, S, fl, S', r, hf, k⟩ => by
  obtain ⟨os, S1, h1, h2⟩ := R.bind_ok hf
  refine ⟨F, O, S, os, S1, r, h1, fun vs H1 F1 O1 st1 r1 ro => ?_⟩
  cases ef : forceAll os S1 with
  | none => rw [ef] at h2; cases h2
  | some z =>
    obtain ⟨zs, S2⟩ := z
    rw [ef] at h2
    obtain ⟨F2, O2, st2, r2, rd⟩ := forceAll_ok r1 ro ef
    have key : ∃ x y, zs = [x, y] ∧ R.ok Fl.nx ((S2.set i (some (.d x))).set j (some (.d y))) = R.ok fl S' := by
      split at h2
      · rename_i e; cases e; exact ⟨_, _, rfl, h2⟩
      · cases h2
    obtain ⟨x', y', rfl, h2⟩ := key
    cases h2
    match vs, rd with
    | [v, w], .cons d1 (.cons d2 .nil) =>
      exact ⟨v, w, rfl, k _ H1 F2 O2 (st1.trans st2) ((r2.putD d1).putD d2) ((Kp.set hki).trans (Kp.set hkj))⟩
end
@[simp] theorem iDown_ap (f : FA) (S : SS) : iDown f S = (f S).bind fun os S => match getAll os S with
  | some [.int i, .int j, .int c] => if c = -1 ∧ (-4611686018427387904 ≤ i ∧ i < 4611686018427387904) ∧ -4611686018427387904 ≤ j ∧ j < 4611686018427387904 then .ok (downD i (i - j).toNat) S else .no
  | _ => .no := (rfl)
@[simp] theorem sPar_ap (i j : Nat) (f : FA) (S : SS) : sPar i j f S = (f S).bind fun os S => match forceAll os S with
  | some ([x, y], S) => .ok .nx ((S.set i (some (.d x))).set j (some (.d y)))
  | _ => .no := (rfl)
@[simp] theorem mulD_si (x : Str) (k : Int) : mulD (.str x) (.int k) = if 0 ≤ k ∧ k ≤ 1000 ∧ x.length ≤ 1000 then some (.d (.str (repS x k.toNat))) else none := (rfl)
@[simp] theorem mulD_ti (xs : List D) (k : Int) : mulD (.tup xs) (.int k) = if 0 ≤ k ∧ k ≤ 10000 ∧ xs ≠ [] ∧ xs.length ≤ 100 then some (.d (.tup (List.replicate k.toNat xs).flatten)) else none := (rfl)
@[simp] theorem sms_nl : D.sms [] [] = true := (rfl)
@[simp] theorem sms_nc (x : D) (xs : List D) : D.sms [] (x :: xs) = false := (rfl)
@[simp] theorem sms_cn (x : D) (xs : List D) : D.sms (x :: xs) [] = false := (rfl)
@[simp] theorem sms_cc (x y : D) (xs ys : List D) : D.sms (x :: xs) (y :: ys) = (D.sm x y && D.sms xs ys) := (rfl)
@[simp] theorem isND_n (a : D) : isND a .non = some (.d (.bl a.isNon)) := by cases a <;> rfl
@[simp] theorem isnND_n (a : D) : isnND a .non = some (.d (.bl (!a.isNon))) := by cases a <;> rfl
@[simp] theorem isND_bb (a b : Bool) : isND (.bl a) (.bl b) = some (.d (.bl (decide (a = b)))) := (rfl)
@[simp] theorem isnND_bb (a b : Bool) : isnND (.bl a) (.bl b) = some (.d (.bl (!decide (a = b)))) := (rfl)
@[simp] theorem isNon_non : D.isNon .non = true := (rfl)
@[simp] theorem isNon_int (i : Int) : D.isNon (.int i) = false := (rfl)
@[simp] theorem isNon_bl (i : Bool) : D.isNon (.bl i) = false := (rfl)
@[simp] theorem isNon_str (i : Str) : D.isNon (.str i) = false := (rfl)
@[simp] theorem isNon_tup (i : List D) : D.isNon (.tup i) = false := (rfl)
@[simp] theorem isNon_lst (i : List D) : D.isNon (.lst i) = false := (rfl)

/-! ### enumerate(text) -/
/-- the signs of a text with their numbers, in new pairs -/
noncomputable def Iten (x : Str) : It := ⟨fun i _ => i < x.cps.size, fun i H v H' => ∃ T c, x.cps[i]? = some c ∧ v = .ref T ∧ H T = none ∧ H' = upd H T (.tup [.int (i : Nat), .str ⟨#[c]⟩]), fun i _ => x.cps.size ≤ i⟩
theorem turn_enumS {P : Program} {w : World} {K : PySem.W.Frag} {elts : List Expr} {kk : Nat} {tpos : Pos} (e it : Addr) (x : Str) (t : Tok) (ty : String) (hty : ty = "str_ascii_iterator" ∨ ty = "str_iterator") :
    Turn P w K (.Tuple elts kk tpos) (Iten x) [e, it] e (fun i h => (∃ old, IsEnum h e it ((i : Nat) : Int) old) ∧ h.IsStrIter it ty x t i ∧ e ≠ it ∧ i ≤ x.cps.size) where
  mem := by simp
  obj := fun i h st b hb => by
    obtain ⟨⟨old, he⟩, ⟨o, ho, hc, hd⟩, _, _⟩ := st
    have e' : b = e ∨ b = it := by simpa using hb
    rcases e' with z | z
    · rw [z]; exact ⟨_, he, fun v q => nomatch q⟩
    · rw [z]; exact ⟨o, ho, fun v q => by rw [hd] at q; cases q⟩
  keep := fun i h h' st k => let ⟨⟨old, he⟩, ⟨o, ho, r⟩, hne⟩ := st; ⟨⟨old, k e (by simp) _ he⟩, ⟨o, k it (by simp) o ho, r⟩, hne⟩
  item := by
    intro X hP hw hK hc i pins s σ H E I hf st hg
    subst hP hw hK
    obtain ⟨⟨old, he⟩, hit, hne, hle⟩ := st
    have D : Draws X.prog X.w X.A.in1 it [it] x.cps.size (SignAt x) (fun i h => h.IsStrIter it ty x t i) := by
      rcases hty with z | z
      · rw [z]; exact Draws.strAscii (A := X.A.in1) (I.ok.hd hc) it x t
      · rw [z]; exact Draws.strWide (A := X.A.in1) (I.ok.hd hc) it x t
    have hel : e < s.heap.objs.size := Heap.lt_size he
    have hil : it < s.heap.objs.size := by obtain ⟨_, q, _⟩ := hit; exact Heap.lt_size q
    refine wpAny_pyNext_enum_itemD D he hit hg hne (by simpa using hne) fun v h' tk hv ho hit' hT hsz hk => ?_
    obtain ⟨c, u, hcx, rfl⟩ := hv
    refine ⟨_, rfl, wpAny_letOwnedTupleGo_enum (s := { s with heap := h', toks := tk + 1 }) ho fun h'' he' sb => ?_⟩
    have hT2 : h''.get? s.heap.objs.size = some { cls := .type "tuple", data := .seq #[.int i tk, .str ⟨#[c]⟩ u] } := (sb.2 _ (Nat.ne_of_gt hel)).trans hT
    have new : ObjOk X.prog X.w (upd H s.heap.objs.size (.tup [.int (i : Nat), .str ⟨#[c]⟩])) h'' s.heap.objs.size (.tup [.int (i : Nat), .str ⟨#[c]⟩]) :=
      ⟨by show 2 ≤ sizeLine; decide, [.int i tk, .str ⟨#[c]⟩ u], .cons ⟨_, rfl⟩ (.cons ⟨_, rfl⟩ .nil), ⟨_, hT2, rfl, _, rfl⟩⟩
    have I1 : Inv X pins σ (upd H s.heap.objs.size (.tup [.int (i : Nat), .str ⟨#[c]⟩])) { s with heap := h'', toks := tk + 1 } :=
      I.turnedNew (ch := [e, it]) (fun b ob hb q => (sb.2 b (fun z => hb (by simp [z]))).trans (hk b ob (fun z => hb (by simp [z])) (fun z => hb (by simp [z])) q)) hf (Nat.le_refl _) new
    refine ⟨.ref s.heap.objs.size, _, I1, rfl, ⟨_, c, hcx, rfl, I.hok.fresh (Nat.le_refl _), rfl⟩, ⟨⟨.str ⟨#[c]⟩ u, ?_⟩, ?_, hne, hg⟩, fun b hb => ?_⟩
    · have e1 : ((i + 1 : Nat) : Int) = (i : Int) + 1 := by omega
      rw [e1]; exact he'
    · obtain ⟨o, ho', r⟩ := hit'
      exact ⟨o, (sb.2 it (Ne.symm hne)).trans ho', r⟩
    · have hb' : b < s.heap.objs.size := by
        have e' : b = e ∨ b = it := by simpa using hb
        rcases e' with z | z
        · rw [z]; exact hel
        · rw [z]; exact hil
      rw [upd_ne (Nat.ne_of_lt hb')]
      exact (hf b hb).1
  done := by
    intro X hP hw hK hc i pins s σ H E I hf st hg
    subst hP hw hK
    obtain ⟨⟨old, he⟩, hit, hne, hle⟩ := st
    obtain ⟨f0, f1, f2, f3, f4, f5⟩ := hf it (by simp)
    have hg : x.cps.size ≤ i := hg
    have ei : i = x.cps.size := Nat.le_antisymm hle hg
    have D : Draws X.prog X.w X.A.in1 it [it] x.cps.size (SignAt x) (fun i h => h.IsStrIter it ty x t i) := by
      rcases hty with z | z
      · rw [z]; exact Draws.strAscii (A := X.A.in1) (I.ok.hd hc) it x t
      · rw [z]; exact Draws.strWide (A := X.A.in1) (I.ok.hd hc) it x t
    exact wpAny_pyNext_enum_endD D he (ei ▸ hit) fun h' eb => ⟨rfl, I.turned (t' := s.toks) (fun b o hb q => eb b o hb q) f0 f1 f3 f4 f5⟩
  self := fun A i s Q E st h => let ⟨⟨_, he⟩, _⟩ := st; wpAny_pyIter_enum he h
noncomputable def iEnumS (ta : TA) : TI := fun σ H R => ta σ H fun vs H1 => ∃ x, vs = [.str x] ∧ R (Iten x) H1
theorem pi_enumS {X : Cx} {e : Expr} {ta : TA} {p pos tpos : Pos} {elts : List Expr} {kk : Nat} (hg : Gl X "enumerate") (hm : X.mg "enumerate" = none) (ha : PA X [e] ta) (hs : starEach [e] X.env = [(false, eval e X.env)] := by rfl) :
    PI X (.Tuple elts kk tpos) (.Call (.Name "enumerate" p) [e] [] pos) (iEnumS ta) := by
  refine ⟨fun pins s σ H R I h => ?_⟩
  refine Call_ (ld_blt I hg hm boot_enumerate (PyProof.Rows.callWith_type1 (thn (ha.run pos pins s σ H _ I h) fun us s1 ⟨vs, H1, I1, r1, q1⟩ => ?_) hs rfl))
  obtain ⟨x, ex, q⟩ := q1
  subst ex
  cases r1 with
  | cons r rr =>
    cases rr
    obtain ⟨t, rfl⟩ := r
    refine call_enumerate_str fun h' he hit hsz hk => wpAny_pyIter_enum he ?_
    have I2 : Inv X pins σ H1 { s1 with heap := h' } := I1.kept (t' := s1.toks) hk
    have hty : strIterType x = "str_ascii_iterator" ∨ strIterType x = "str_iterator" := by
      unfold strIterType
      split
      · exact .inl rfl
      · exact .inr rfl
    refine ⟨s1.heap.objs.size + 1, [s1.heap.objs.size + 1, s1.heap.objs.size], _, _, H1, rfl, I2, turn_enumS (s1.heap.objs.size + 1) s1.heap.objs.size x t _ hty, ⟨⟨.none, he⟩, hit, Nat.succ_ne_self _, Nat.zero_le _⟩, fun b hb => ?_, q⟩
    have e' : b = s1.heap.objs.size + 1 ∨ b = s1.heap.objs.size := by simpa using hb
    have hle : s1.heap.objs.size ≤ b := by
      rcases e' with z | z
      · rw [z]; exact Nat.le_add_right _ _
      · rw [z]; exact Nat.le_refl _
    exact I1.fpOk hle (I1.hok.fresh hle)
/-- enumerate of a list or a text -/
noncomputable def iEnA (f : FA) : FI := fun S => (f S).bind fun os S => match forceAll os S with
  | some ([.str x], S2) => .ok (enumD (strSeq x)) S2
  | _ => .no
section
variable {X : Cx} {a : Expr} {pos : Pos}
theorem di_enumS {f : FA} {p tpos : Pos} {elts : List Expr} {kk : Nat} (hg : Gl X "enumerate") (hm : X.mg "enumerate" = none) (h : DA X f [a])
    (hs : starEach [a] X.env = [(false, eval a X.env)] := by rfl) : PI X (.Tuple elts kk tpos) (.Call (.Name "enumerate" p) [a] [] pos) (rdI (kg X) (iEnA f)) := by
  refine PI.imp (pi_enumS hg hm h hs) fun σ H R' ⟨F, O, S, ds, S', r, hf, k⟩ => ?_
  obtain ⟨os, S1, h1, h2⟩ := R.bind_ok hf
  refine ⟨F, O, S, os, S1, r, h1, fun vs H1 F1 O1 st1 r1 ro => ?_⟩
  cases ef : forceAll os S1 with
  | none => rw [ef] at h2; cases h2
  | some z =>
    obtain ⟨zs, S2⟩ := z
    rw [ef] at h2
    obtain ⟨F2, O2, st2, r2, rd⟩ := forceAll_ok r1 ro ef
    have key : ∃ x, zs = [.str x] ∧ R.ok (enumD (strSeq x)) S2 = R.ok ds S' := by
      split at h2
      · rename_i e; cases e; exact ⟨_, rfl, h2⟩
      · cases h2
    obtain ⟨x, rfl, h2⟩ := key
    cases h2
    match vs, rd with
    | [_], .cons (.str _) .nil =>
      refine ⟨x, rfl, k _ H1 F2 O2 (st1.trans st2) r2 ?_⟩
      have hl : (enumD (strSeq x)).length = x.cps.size := by unfold enumD strSeq; rw [List.length_mapIdx, List.length_map, Array.length_toList]
      refine ⟨fun i H F' l1 l2 hi => ?_, fun i H F' O σ S v H' rp l1 hi y => ?_, fun H F' l1 l2 => ?_⟩
      · rw [hl] at hi; exact hi
      · obtain ⟨T, c, hc, ev, hT, eH⟩ := y
        subst ev eH
        obtain ⟨st, r⟩ := rp.layF (o := .tup [.int i, .str ⟨#[c]⟩]) hT
        refine ⟨_, st, r, fun d hd' => ?_⟩
        unfold enumD strSeq at hd'
        rw [List.getElem?_mapIdx, List.getElem?_map, Array.getElem?_toList, hc] at hd'
        cases hd'
        exact .tup (.inl (.inl upd_same)) (.cons (.int _) (.cons (.str _) .nil))
      · show x.cps.size ≤ (enumD (strSeq x)).length
        rw [hl]; exact Nat.le_refl _
end
@[simp] theorem iEnA_ap (f : FA) (S : SS) : iEnA f S = (f S).bind fun os S => match forceAll os S with
  | some ([.str x], S2) => .ok (enumD (strSeq x)) S2
  | _ => .no := (rfl)

/-! ### dict displays -/
section
variable {X : Cx} {pos : Pos}
end
noncomputable def mDk (ks : List Key) (f : FA) : FM := fun S => (f S).bind fun os S => match forceAll os S with
  | some (ds, S) => if ds.length = ks.length then .ok (.dk (ks.zip ds)) S else .no
  | none => .no
section
variable {X : Cx} {pos : Pos}
theorem dm_dk0 : DM X (mDk [] aNil) (.Dict [] [] pos) := PE.imp pe_dnewK fun σ H Q ⟨F, O, S, m, S', r, hf, k⟩ => by
  cases hf
  exact fun p hp => (r.wish fun w H4 F4 O4 st4 r4 rm => k w H4 F4 O4 st4 r4 rm).k [] [] p [] rfl rfl hp .nil
end
@[simp] theorem mDk_ap (ks : List Key) (f : FA) (S : SS) : mDk ks f S = (f S).bind fun os S => match forceAll os S with
  | some (ds, S) => if ds.length = ks.length then .ok (.dk (ks.zip ds)) S else .no
  | none => .no := (rfl)

noncomputable def tl (x : Str) : List Nat := x.cps.toList
theorem tl_ext {x y : Str} (h : tl x = tl y) : x = y := TL.ext_tl h
theorem tl_one (c : Nat) : tl ⟨#[c]⟩ = [c] := rfl
@[simp] theorem tl_app (x y : Str) : tl (x ++ y) = tl x ++ tl y := TL.tl_append x y
theorem tl_len (x : Str) : x.length = (tl x).length := (Array.length_toList).symm
@[simp] theorem len_app (x y : Str) : (x ++ y).length = x.length + y.length := PySem.Str.length_append x y
theorem eq_of_wp {c : CR} {a : M} {S : List (Option M)} (q : c.wp fun r fin => r = a ∧ fin = S) : c = .ok a S := by
  obtain ⟨x, T, e, rfl, rfl⟩ := CR.wp_ok q
  exact e
/-! ### lists of texts -/
mutual
theorem D.py_nd : ∀ d : D, d.pl = true → d.py.hasDict = false
  | .non, _ => rfl
  | .bl _, _ => rfl
  | .int _, _ => rfl
  | .str _, _ => rfl
  | .tup xs, h => D.pys_nd xs h
  | .lst xs, h => D.pys_nd xs h
theorem D.pys_nd : ∀ xs : List D, D.pls xs = true → PyData.hasDictAll (D.pys xs) = false
  | [], _ => rfl
  | x :: xs, h => by
    have h : (D.pl x && D.pls xs) = true := h
    rw [Bool.and_eq_true] at h
    show (PyData.hasDict (D.py x) || PyData.hasDictAll (D.pys xs)) = false
    rw [D.py_nd x h.1, D.pys_nd xs h.2]
    rfl
end
noncomputable def rp (d : D) : Str := d.py.shown
noncomputable def rpOk (d : D) : Bool := d.pl && d.py.showable && decide (d.dep ≤ 196) && decide ((rp d).length ≤ 16777216)
noncomputable def reprD : D → Option M
  | .lst xs => if rpOk (.lst xs) = true then some (.d (.str (rp (.lst xs)))) else none
  | .tup xs => if rpOk (.tup xs) = true then some (.d (.str (rp (.tup xs)))) else none
  | _ => none
section
variable {X : Cx}
theorem repr_at {n : Nat} {pins : List (Addr × Obj)} {s : Shared} {σ : St} {H F : Hp} {a : Addr} {d : D} {us : List Value} {Q : VK} (hr : RoomG n X.A) (I : Inv X pins σ H s) (r : Vals [.ref a] us) (l : Le F H) (w : View (kg X) H F (.ref a) d) (h : rpOk d = true) (wi : Wish (kg X) H F (.d (.str (rp d))) Q) :
    wpAny (model X.prog X.w) X.A (call (.builtin "repr") us) (EP X pins σ Q) X.xe s := by
  unfold rpOk at h
  rw [Bool.and_eq_true, Bool.and_eq_true, Bool.and_eq_true] at h
  obtain ⟨⟨⟨h1, h2⟩, h3⟩, h4⟩ := h
  have h3 := of_decide_eq_true h3
  have h4 : d.py.shown.length ≤ 16777216 := of_decide_eq_true h4
  obtain ⟨u, rfl, rv⟩ := vals1 r
  obtain rfl : u = Value.ref a := rv
  obtain ⟨as, R⟩ := (w.dp l h1).reads I d.py (.ref a) (.ref a) rfl
  have hd := D.py_dep d h1
  have un := hr.rm.un
  refine PySem.repr_of_reads' R h2 (PyData.noDict_hsm (D.py_nd d h1)) hr.gd (by rw [hd]; omega) (fun _ _ e => e) (fun h' u tk hk => ?_) (by rw [sizeLine_eq]; exact h4)
  exact ⟨.str _, H, I.kept hk, ⟨u, rfl⟩, wi.str⟩
theorem cd_repr {n : Nat} (hr : RoomG n X.A) : CallR X (.builtin "repr") (semC (kg X) (on1 reprD)) := call1 fun pins s σ H F v x us m Q I r l wx e wi => by
  cases x with
  | lst ds =>
    obtain ⟨a, vs, rfl, h1, r1⟩ := wx.list l
    have e : (if rpOk (.lst ds) = true then some (M.d (.str (rp (.lst ds)))) else none) = some m := e
    split at e
    · rename_i h
      cases e
      exact repr_at hr I r l wx h wi
    · cases e
  | tup ds =>
    obtain ⟨a, vs, rfl, h1, r1⟩ := wx.tuple l
    have e : (if rpOk (.tup ds) = true then some (M.d (.str (rp (.tup ds)))) else none) = some m := e
    split at e
    · rename_i h
      cases e
      exact repr_at hr I r l wx h wi
    · cases e
  | _ => cases e
end
@[simp] theorem reprD_l (xs : List D) : reprD (.lst xs) = if rpOk (.lst xs) = true then some (.d (.str (rp (.lst xs)))) else none := (rfl)
@[simp] theorem reprD_t (xs : List D) : reprD (.tup xs) = if rpOk (.tup xs) = true then some (.d (.str (rp (.tup xs)))) else none := (rfl)
/-! ### how long what repr tells may be -/
mutual
noncomputable def D.cst : D → Nat
  | .int _ => 25
  | .str x => 10 * x.length + 4
  | .tup xs => D.csts xs + 3
  | .lst xs => D.csts xs + 3
  | _ => 5
noncomputable def D.csts : List D → Nat
  | [] => 0
  | x :: xs => D.cst x + 2 + D.csts xs
end
mutual
noncomputable def D.fit : D → Bool
  | .non => true
  | .bl _ => true
  | .int i => decide (-18446744073709551616 < i ∧ i < 18446744073709551616)
  | .str x => x.cps.toList.all fun c => decide (c < 4294967296)
  | .tup xs => D.fits xs
  | .lst xs => D.fits xs
  | _ => false
noncomputable def D.fits : List D → Bool
  | [] => true
  | x :: xs => D.fit x && D.fits xs
end
@[simp] theorem cst_int (i : Int) : D.cst (.int i) = 25 := (rfl)
@[simp] theorem cst_bl (b : Bool) : D.cst (.bl b) = 5 := (rfl)
@[simp] theorem cst_non : D.cst .non = 5 := (rfl)
@[simp] theorem cst_str (x : Str) : D.cst (.str x) = 10 * x.length + 4 := (rfl)
@[simp] theorem cst_tup (xs : List D) : D.cst (.tup xs) = D.csts xs + 3 := (rfl)
@[simp] theorem cst_lst (xs : List D) : D.cst (.lst xs) = D.csts xs + 3 := (rfl)
@[simp] theorem csts_n : D.csts [] = 0 := (rfl)
@[simp] theorem csts_c (x : D) (xs : List D) : D.csts (x :: xs) = D.cst x + 2 + D.csts xs := (rfl)
@[simp] theorem fit_non : D.fit .non = true := (rfl)
@[simp] theorem fit_bl (b : Bool) : D.fit (.bl b) = true := (rfl)
@[simp] theorem fit_int (i : Int) : D.fit (.int i) = decide (-18446744073709551616 < i ∧ i < 18446744073709551616) := (rfl)
@[simp] theorem fit_tup (xs : List D) : D.fit (.tup xs) = D.fits xs := (rfl)
@[simp] theorem fit_lst (xs : List D) : D.fit (.lst xs) = D.fits xs := (rfl)
@[simp] theorem fits_n : D.fits [] = true := (rfl)
@[simp] theorem fits_c (x : D) (xs : List D) : D.fits (x :: xs) = (D.fit x && D.fits xs) := (rfl)
theorem listText_le (ts : List Str) : (listText ts).length ≤ piled ts + 3 := by
  cases ts with
  | nil => decide +kernel
  | cons t r =>
    have h := textFrom_length_pos r 1 (("[" : Str) ++ (if (0 : Nat) > 0 then ", " else "" : String) ++ t) (Nat.succ_pos 0)
    have e : ((("[" : Str) ++ (if (0 : Nat) > 0 then ", " else "" : String) ++ t)).length = 1 + t.length := by
      rw [strLen_append, strLen_append]; rfl
    have hX : (listText (t :: r)).length = (textFrom 1 (("[" : Str) ++ (if (0 : Nat) > 0 then ", " else "" : String) ++ t) r).length + 1 := by
      show (textFrom 0 "[" (t :: r) ++ "]").length = _
      rw [strLen_append]; rfl
    rw [hX, h, e, piled_cons]
    omega
mutual
theorem fit_ok : ∀ d : D, d.fit = true → d.pl = true ∧ d.py.showable = true ∧ (d.py.shown).length ≤ d.cst
  | .non, _ => ⟨rfl, rfl, by show ("None" : Str).length ≤ 5; decide +kernel⟩
  | .bl b, _ => ⟨rfl, rfl, by cases b <;> decide +kernel⟩
  | .int i, h => by
    have h := of_decide_eq_true (show decide (-18446744073709551616 < i ∧ i < 18446744073709551616) = true from h)
    refine ⟨rfl, ?_, ?_⟩
    · show decide (i.natAbs.log2 < 1920) = true
      exact decide_eq_true (Nat.lt_of_lt_of_le (PySem.Flt.log2_lt_of (k := 64) (by decide) (by omega)) (by decide))
    · have e := int_text_length_le10 (a := i) (k := 20) (by decide) (by omega)
      show (Str.ofString (toString i)).length ≤ 25
      rw [PySem.ofString_length]
      omega
  | .str x, h => by
    have h : (x.cps.toList.all fun c => decide (c < 4294967296)) = true := h
    refine ⟨rfl, rfl, ?_⟩
    have e := StrLaws.reprText_len x fun c hc => by
      have := of_decide_eq_true (List.all_eq_true.mp h c hc)
      have : (16 : Nat) ^ 8 = 4294967296 := by decide
      omega
    show (reprText x).length ≤ 10 * x.length + 4
    omega
  | .tup xs, h => by
    obtain ⟨h1, h2, h3⟩ := fits_ok xs h
    refine ⟨h1, h2, ?_⟩
    have e := fmt_text (PyData.shownAll (D.pys xs))
    show (tupleText (PyData.shownAll (D.pys xs))).length ≤ D.csts xs + 3
    omega
  | .lst xs, h => by
    obtain ⟨h1, h2, h3⟩ := fits_ok xs h
    refine ⟨h1, h2, ?_⟩
    have e := listText_le (PyData.shownAll (D.pys xs))
    show (listText (PyData.shownAll (D.pys xs))).length ≤ D.csts xs + 3
    omega
theorem fits_ok : ∀ xs : List D, D.fits xs = true → D.pls xs = true ∧ PyData.showableAll (D.pys xs) = true ∧ piled (PyData.shownAll (D.pys xs)) ≤ D.csts xs
  | [], _ => ⟨rfl, rfl, Nat.le_refl _⟩
  | x :: xs, h => by
    have h : (D.fit x && D.fits xs) = true := h
    rw [Bool.and_eq_true] at h
    obtain ⟨a1, a2, a3⟩ := fit_ok x h.1
    obtain ⟨b1, b2, b3⟩ := fits_ok xs h.2
    refine ⟨?_, ?_, ?_⟩
    · show (D.pl x && D.pls xs) = true
      rw [a1, b1]; rfl
    · show (PyData.showable (D.py x) && PyData.showableAll (D.pys xs)) = true
      rw [a2, b2]; rfl
    · show piled (PyData.shown (D.py x) :: PyData.shownAll (D.pys xs)) ≤ D.cst x + 2 + D.csts xs
      rw [piled_cons]
      omega
end
theorem rpOk_of {d : D} (h : d.fit = true) (h2 : d.dep ≤ 196) (h3 : d.cst ≤ 16777216) : rpOk d = true := by
  obtain ⟨a1, a2, a3⟩ := fit_ok d h
  unfold rpOk
  rw [a1, a2, decide_eq_true h2, decide_eq_true (show (rp d).length ≤ 16777216 from Nat.le_trans a3 h3)]
  rfl
section
variable {prog : Program} {w : World} {A : Around} {E : Value → Shared → Prop} {s : Shared}
end
section
variable {X : Cx}
end
theorem RepDs.last {K : KG} {F : Hp} : ∀ {vs : List V} {ds : List D} {x : D}, RepDs K F vs ds → ds.getLast? = some x → ∃ v, vs = vs.dropLast ++ [v] ∧ RepD K F v x
  | [], [], x, _, h => by cases h
  | [v], [d], x, .cons a .nil, h => by
    cases h
    exact ⟨_, rfl, a⟩
  | v :: w :: vs, d :: d2 :: ds, x, .cons a r, h => by
    rw [List.getLast?_cons_cons] at h
    obtain ⟨z, e, hz⟩ := RepDs.last r h
    refine ⟨z, ?_, hz⟩
    rw [List.dropLast_cons₂, List.cons_append, ← e]
section
variable {X : Cx} {kp : Nat → Bool} {e : Expr} {pos pt : Pos} {x y : Str} {px py ps : Pos} {kt : Nat}
end
/-! ### x.reverse() -/
section
variable {X : Cx}
end
noncomputable def tabIs (w : World) : List DictEntry → List (Str × Int) → Prop
  | [], [] => True
  | e :: es, (k, i) :: kvs => (e.hash = hashStr w k ∧ (∃ t, e.key = .str k t) ∧ ∃ t, e.val = .int i t) ∧ tabIs w es kvs
  | _, _ => False
/-- a global that is such a table -/
noncomputable def TabG (w : World) (K : PySem.W.Frag) (mg : Str → Option Value) (x : Str) (kvs : List (Str × Int)) : Prop :=
  ∃ a o es ep, mg x = some (.ref a) ∧ K.lookup a = some o ∧ o.ExactDict ∧ o.data = .dict es ep ∧ tabIs w es.toList kvs ∧ (a == sysModules) = false ∧ (kvs.map (·.1)).Nodup
section
variable {X : Cx} {e a b : Expr} {pos pos' : Pos} {x : Str} {kvs : List (Str × Int)}
theorem TabG.at (T : TabG X.w X.K X.mg x kvs) : ∃ a, X.mg x = some (.ref a) ∧ ∃ o es ep, X.K.lookup a = some o ∧ o.ExactDict ∧ o.data = .dict es ep ∧ tabIs X.w es.toList kvs ∧ (a == sysModules) = false ∧ (kvs.map (·.1)).Nodup := by
  obtain ⟨a, o, es, ep, h1, h2⟩ := T
  exact ⟨a, h1, o, es, ep, h2⟩
end

section
variable {X : Cx} {a : Expr} {p p2 q pos : Pos}
end
section
variable {X : Cx} {e : Expr} {p pos kpos cpos : Pos} {kj : Nat}
end
section
variable {X : Cx} {a b c : Expr} {pos : Pos} {K : KG} {F : Hp}
end
/-- the text of an entry -/
noncomputable def keyS (e : Int × Value) : Str := match e.2 with
  | .str k _ => k
  | _ => Str.empty
/-- an entry that is a text at its hash -/
noncomputable def TxE (w : World) (e : Int × Value) : Prop := ∃ k tk, e = (hashStr w k, Value.str k tk)
/-- the set at a holds just these texts, and its order can be followed -/
noncomputable def SetX (w : World) (h : Heap) (a : Addr) (xs : List Str) : Prop :=
  ∃ o es ep t, (h.get? a = some o ∧ o.ExactSet ∧ o.data = .set es ep t) ∧ ((∀ e ∈ es.toList, TxE w e) ∧ (es.toList.map keyS).Perm xs) ∧ xs.Nodup ∧ xs.length < scanBound ∧
    (t.fits es.size = true ∧ Ris t.place.toList ∧ (w.params.followText "set-order" = true ∨ t.led = true))
section
variable {P : Program} {w : World} {A : Around} {E : Value → Shared → Prop} {s : Shared} {a : Addr} {xs : List Str}
end
section
variable {P : Program} {w : World} {A : Around} {E : Value → Shared → Prop} {s : Shared} {a : Addr} {xs : List Str}
end
section
variable {X : Cx} {a : Expr} {p p2 q pos : Pos}
end
/-! ### the parts of an owned thing -/
noncomputable def M.kids : M → List M
  | .seq ms => ms
  | .box ms => ms
  | .ob _ _ ms => ms
  | _ => []
noncomputable def M.setK : M → Nat → M → M
  | .seq ms, k, x => .seq (ms.set k x)
  | .box ms, k, x => .box (ms.set k x)
  | .ob c ns ms, k, x => .ob c ns (ms.set k x)
  | m, _, _ => m
mutual
/-- from one place to another, with what is below it -/
theorem RepM.rel {K : KG} {H F H' F' : Hp} {O O' : OW} {z z' : Rt} {p0 p1 : List Nat} (ff : Le F F') (k : ∀ a o s, O a = some (z, p0 ++ s) → H a = some o → H' a = some o ∧ O' a = some (z', p1 ++ s)) : ∀ {m : M} {s : List Nat} {v : V}, RepM K H F O (z, p0 ++ s) v m → RepM K H' F' O' (z', p1 ++ s) v m
  | .d x, s, v, h => RepD.mono ff h
  | .lst ds, s, v, h => by
    obtain ⟨a, vs, e, ho, hh, r⟩ := h
    obtain ⟨k1, k2⟩ := k a _ s ho hh
    exact ⟨a, vs, e, k2, k1, r.mono ff⟩
  | .dk kd, s, v, h => by
    obtain ⟨a, ks, vs, ds, e, ho, hh, el, r, ek⟩ := h
    obtain ⟨k1, k2⟩ := k a _ s ho hh
    exact ⟨a, ks, vs, ds, e, k2, k1, el, r.mono ff, ek⟩
  | .dt kd, s, v, h => by
    obtain ⟨a, ks, vs, ds, e, ho, hh, el, r, ek⟩ := h
    obtain ⟨k1, k2⟩ := k a _ s ho hh
    exact ⟨a, ks, vs, ds, e, k2, k1, el, r.mono ff, ek⟩
  | .seq ms, s, v, h => by
    obtain ⟨a, vs, e, ho, hh, r⟩ := h
    obtain ⟨k1, k2⟩ := k a _ s ho hh
    exact ⟨a, vs, e, k2, k1, RepMs.rel ff k r⟩
  | .box ms, s, v, h => by
    obtain ⟨a, vs, e, ht, r⟩ := h
    exact ⟨a, vs, e, ff _ _ ht, RepMs.rel ff k r⟩
  | .ob c ns ms, s, v, h => by
    obtain ⟨a, C, dx, vs, e, ho, hc, hh, el, r⟩ := h
    obtain ⟨k1, k2⟩ := k a _ s ho hh
    exact ⟨a, C, dx, vs, e, k2, hc, k1, el, RepMs.rel ff k r⟩
  | .exn x, s, v, h => by
    obtain ⟨a, cls, d, e1, e2, r⟩ := h
    exact ⟨a, cls, d, e1, e2, r.mono ff⟩
theorem RepMs.rel {K : KG} {H F H' F' : Hp} {O O' : OW} {z z' : Rt} {p0 p1 : List Nat} (ff : Le F F') (k : ∀ a o s, O a = some (z, p0 ++ s) → H a = some o → H' a = some o ∧ O' a = some (z', p1 ++ s)) : ∀ {ms : List M} {s : List Nat} {n : Nat} {vs : List V}, RepMs K H F O (z, p0 ++ s) n vs ms → RepMs K H' F' O' (z', p1 ++ s) n vs ms
  | [], s, n, vs, h => h
  | m :: ms, s, n, vs, h => by
    obtain ⟨v, vs', e, h1, h2⟩ := h
    refine ⟨v, vs', e, ?_, RepMs.rel ff k h2⟩
    have h1 : RepM K H F O (z, p0 ++ s ++ [n]) v m := h1
    show RepM K H' F' O' (z', p1 ++ s ++ [n]) v m
    rw [List.append_assoc] at h1 ⊢
    exact RepM.rel ff k h1
end
theorem RepMs.get {K : KG} {H F : Hp} {O : OW} {q : Pl} : ∀ {ms : List M} {n k : Nat} {vs : List V} {m : M}, RepMs K H F O q n vs ms → ms[k]? = some m → ∃ v, vs[k]? = some v ∧ RepM K H F O (q.1, q.2 ++ [n + k]) v m
  | [], n, k, vs, m, h, e => by simp at e
  | x :: ms, n, 0, vs, m, h, e => by
    obtain ⟨v, vs', ev, h1, h2⟩ := h
    simp only [List.getElem?_cons_zero, Option.some.injEq] at e
    subst e ev
    exact ⟨v, rfl, h1⟩
  | x :: ms, n, k + 1, vs, m, h, e => by
    obtain ⟨v, vs', ev, h1, h2⟩ := h
    subst ev
    obtain ⟨u, e1, e2⟩ := RepMs.get (k := k) h2 (by simpa using e)
    refine ⟨u, by simpa using e1, ?_⟩
    have z : n + 1 + k = n + (k + 1) := by omega
    rw [z] at e2
    exact e2
/-- one part changed, the others kept -/
theorem RepMs.put {K : KG} {H F H' F' : Hp} {O O' : OW} {q q' : Pl} {v' : V} {m' : M} : ∀ {ms : List M} {n k : Nat} {vs : List V}, (∀ i v m, i ≠ n + k → RepM K H F O (q.1, q.2 ++ [i]) v m → RepM K H' F' O' (q'.1, q'.2 ++ [i]) v m) → RepM K H' F' O' (q'.1, q'.2 ++ [n + k]) v' m' → RepMs K H F O q n vs ms →
    RepMs K H' F' O' q' n (vs.set k v') (ms.set k m')
  | [], n, k, vs, keep, hm, h => by
    rw [show vs = [] from h]
    cases k <;> rfl
  | x :: ms, n, 0, vs, keep, hm, h => by
    obtain ⟨v, vs', ev, h1, h2⟩ := h
    subst ev
    refine ⟨v', vs', rfl, hm, ?_⟩
    have : ∀ {ms : List M} {j : Nat} {vs : List V}, n < j → RepMs K H F O q j vs ms → RepMs K H' F' O' q' j vs ms := by
      intro ms
      induction ms with
      | nil => exact fun {j vs} _ h => h
      | cons y ys ih =>
        rintro j vs hj ⟨v, vs', e, h1, h2⟩
        exact ⟨v, vs', e, keep _ _ _ (by omega) h1, ih (by omega) h2⟩
    exact this (Nat.lt_succ_self _) h2
  | x :: ms, n, k + 1, vs, keep, hm, h => by
    obtain ⟨v, vs', ev, h1, h2⟩ := h
    subst ev
    refine ⟨v, vs'.set k v', rfl, keep _ _ _ (by omega) h1, ?_⟩
    have z : n + 1 + k = n + (k + 1) := by omega
    exact RepMs.put (n := n + 1) (k := k) (fun i v m hi => keep i v m (by rw [← z]; exact hi)) (by rw [z]; exact hm) h2
theorem RepMs.all {K : KG} {H F H' F' : Hp} {O O' : OW} {q q' : Pl} : ∀ {ms : List M} {n : Nat} {vs : List V}, (∀ i v m, RepM K H F O (q.1, q.2 ++ [i]) v m → RepM K H' F' O' (q'.1, q'.2 ++ [i]) v m) → RepMs K H F O q n vs ms → RepMs K H' F' O' q' n vs ms
  | [], n, vs, keep, h => h
  | x :: ms, n, vs, keep, h => by
    obtain ⟨v, vs', ev, h1, h2⟩ := h
    exact ⟨v, vs', ev, keep _ _ _ h1, RepMs.all keep h2⟩
/-- the k-th part of the value v0 -/
noncomputable def kidV (H : Hp) (v0 : V) (k : Nat) (v : V) : Prop := ∃ a0, v0 = .ref a0 ∧ ((∃ vs, H a0 = some (.lst vs) ∧ vs[k]? = some v) ∨ (∃ vs, H a0 = some (.tup vs) ∧ vs[k]? = some v) ∨ ∃ C dx fs, H a0 = some (.ins C dx fs) ∧ (fs.map (·.2))[k]? = some v)
theorem kidV.uniq {H : Hp} {v0 v w : V} {k : Nat} (h : kidV H v0 k v) (h' : kidV H v0 k w) : v = w := by
  obtain ⟨a, e, h⟩ := h
  obtain ⟨b, e', h'⟩ := h'
  rw [e] at e'
  cases e'
  rcases h with ⟨vs, h1, h2⟩ | ⟨vs, h1, h2⟩ | ⟨C, dx, vs, h1, h2⟩ <;> rcases h' with ⟨ws, h3, h4⟩ | ⟨ws, h3, h4⟩ | ⟨C', dx', ws, h3, h4⟩ <;> rw [h1] at h3 <;> cases h3 <;> rw [h2] at h4 <;> cases h4 <;> rfl
theorem zipSnd {α β : Type} : ∀ {xs : List α} {ys : List β}, xs.length = ys.length → (xs.zip ys).map (·.2) = ys
  | [], [], _ => rfl
  | x :: xs, y :: ys, h => by
    rw [List.zip_cons_cons, List.map_cons, zipSnd (by simpa using h)]
  | [], _ :: _, h => by simp at h
  | _ :: _, [], h => by simp at h
section
variable {K : KG} {H F : Hp} {O : OW} {σ : St} {S : SS} {j k : Nat} {m0 m : M}
/-- a part of what is in a slot -/
theorem Rp.kid (r : Rp K H F O σ S) (e : S.at j = some m0) (hk : m0.kids[k]? = some m) : ∃ v0 v, σ[j]? = some (some v0) ∧ kidV H v0 k v ∧ RepM K H F O (.s j, [k]) v m := by
  obtain ⟨v0, hv, rm⟩ := r.sl j _ e
  cases m0 with
  | seq ms =>
    obtain ⟨a, vs, e1, ho, hh, rs⟩ := rm
    obtain ⟨v, h1, h2⟩ := RepMs.get (n := 0) (k := k) rs hk
    rw [Nat.zero_add] at h2
    exact ⟨v0, v, hv, ⟨a, e1, .inl ⟨vs, hh, h1⟩⟩, h2⟩
  | box ms =>
    obtain ⟨a, vs, e1, hh, rs⟩ := rm
    obtain ⟨v, h1, h2⟩ := RepMs.get (n := 0) (k := k) rs hk
    rw [Nat.zero_add] at h2
    exact ⟨v0, v, hv, ⟨a, e1, .inr (.inl ⟨vs, r.bs.fh _ _ hh, h1⟩)⟩, h2⟩
  | ob c ns ms =>
    obtain ⟨a, C, dx, vs, e1, ho, hc, hh, el, rs⟩ := rm
    obtain ⟨v, h1, h2⟩ := RepMs.get (n := 0) (k := k) rs hk
    rw [Nat.zero_add] at h2
    exact ⟨v0, v, hv, ⟨a, e1, .inr (.inr ⟨C, dx, _, hh, by rw [zipSnd el]; exact h1⟩)⟩, h2⟩
  | d _ => simp [M.kids] at hk
  | lst _ => simp [M.kids] at hk
  | dk _ => simp [M.kids] at hk
  | dt _ => simp [M.kids] at hk
  | exn _ => simp [M.kids] at hk
/-- a list that is such a part is changed -/
theorem Rp.mutK {ds : List D} (r : Rp K H F O σ S) (e : S.at j = some m0) (hk : m0.kids[k]? = some (.lst ds)) :
    ∃ v0 a vs, σ[j]? = some (some v0) ∧ kidV H v0 k (.ref a) ∧ H a = some (.lst vs) ∧ RepDs K F vs ds ∧ ∀ vs' ds', RepDs K F vs' ds' → Stp H F O (upd H a (.lst vs')) F O ∧ Rp K (upd H a (.lst vs')) F O σ (S.set j (some (m0.setK k (.lst ds')))) := by
  obtain ⟨v0, v, hv, hkv, a, vs, rfl, ho, hh, rd⟩ := r.kid e hk
  have hF := (r.bs.fo a _ ho).1
  refine ⟨v0, a, vs, hv, hkv, hh, rd, fun vs' ds' rd' => ⟨⟨Le.refl _, fun b u hb eb => ?_, fun b q hb => .inl ⟨q, hb⟩, fun b u hb => .inl hb, al_upd⟩, ⟨⟨fun b u hb => ?_, fun b q hb => ?_⟩, by rw [List.length_set]; exact r.len, fun i x hm => ?_⟩⟩⟩
  · rw [upd_ne (fun z => by subst z; rw [ho] at eb; cases eb)]; exact hb
  · rw [upd_ne (ne_of_none hb hF)]; exact r.bs.fh b u hb
  · obtain ⟨h1, h2⟩ := r.bs.fo b q hb
    obtain ⟨u, hu⟩ := h2
    exact ⟨h1, al_upd b u hu⟩
  · rcases SS.at_set hm with ⟨e1, e2⟩ | ⟨ne, hm⟩
    · subst e1
      cases e2
      obtain ⟨w, hw, rm⟩ := r.sl j _ e
      rw [hv] at hw
      cases hw
      refine ⟨v0, hv, ?_⟩
      have keep : ∀ i v m, i ≠ k → RepM K H F O (.s j, [] ++ [i]) v m → RepM K (upd H a (.lst vs')) F O (.s j, [] ++ [i]) v m := fun i v m hi rm => by
        have := RepM.rel (z := .s j) (z' := .s j) (p0 := [i]) (p1 := [i]) (s := []) (F' := F) (H' := upd H a (.lst vs')) (O' := O) (Le.refl _) (fun b u s e1 e2 => ⟨by
          rw [upd_ne (fun z => by subst z; rw [ho] at e1; cases e1; exact hi rfl)]; exact e2, e1⟩) rm
        exact this
      have new : RepM K (upd H a (.lst vs')) F O (.s j, [] ++ [0 + k]) (.ref a) (.lst ds') := ⟨a, vs', rfl, by rw [Nat.zero_add]; exact ho, upd_same, rd'⟩
      have same : ∀ {ws : List V}, ws[k]? = some (.ref a) → ws.set k (.ref a) = ws := fun {ws} h => by
        apply List.ext_getElem?
        intro i
        by_cases c : k = i
        · subst c
          have hl := (List.getElem?_eq_some_iff.mp h).1
          rw [List.getElem?_set_self hl, h]
        · rw [List.getElem?_set_ne c]
      cases m0 with
      | seq ms =>
        obtain ⟨a0, ws, e1, ho0, hh0, rs⟩ := rm
        obtain ⟨b0, e3, h3⟩ := hkv
        rw [e1] at e3
        cases e3
        have hws : ws[k]? = some (.ref a) := by
          rcases h3 with ⟨xs, q1, q2⟩ | ⟨xs, q1, q2⟩ | ⟨C, dx, xs, q1, q2⟩ <;> rw [hh0] at q1 <;> cases q1
          exact q2
        have := RepMs.put (q := (.s j, [])) (q' := (.s j, [])) (n := 0) (k := k) (fun i v m hi => keep i v m (by rw [Nat.zero_add] at hi; exact hi)) new rs
        rw [same hws] at this
        exact ⟨a0, ws, e1, ho0, by rw [upd_ne (fun z => by subst z; rw [ho] at ho0; cases ho0)]; exact hh0, this⟩
      | box ms =>
        obtain ⟨a0, ws, e1, hh0, rs⟩ := rm
        obtain ⟨b0, e3, h3⟩ := hkv
        rw [e1] at e3
        cases e3
        have hH0 := r.bs.fh _ _ hh0
        have hws : ws[k]? = some (.ref a) := by
          rcases h3 with ⟨xs, q1, q2⟩ | ⟨xs, q1, q2⟩ | ⟨C, dx, xs, q1, q2⟩ <;> rw [hH0] at q1 <;> cases q1
          exact q2
        have := RepMs.put (q := (.s j, [])) (q' := (.s j, [])) (n := 0) (k := k) (fun i v m hi => keep i v m (by rw [Nat.zero_add] at hi; exact hi)) new rs
        rw [same hws] at this
        exact ⟨a0, ws, e1, hh0, this⟩
      | ob c ns ms =>
        obtain ⟨a0, C, dx, ws, e1, ho0, hc, hh0, el, rs⟩ := rm
        obtain ⟨b0, e3, h3⟩ := hkv
        rw [e1] at e3
        cases e3
        have hws : ws[k]? = some (.ref a) := by
          rcases h3 with ⟨xs, q1, q2⟩ | ⟨xs, q1, q2⟩ | ⟨C, dx, xs, q1, q2⟩ <;> rw [hh0] at q1 <;> cases q1
          rw [zipSnd el] at q2
          exact q2
        have := RepMs.put (q := (.s j, [])) (q' := (.s j, [])) (n := 0) (k := k) (fun i v m hi => keep i v m (by rw [Nat.zero_add] at hi; exact hi)) new rs
        rw [same hws] at this
        exact ⟨a0, C, dx, ws, e1, ho0, hc, by rw [upd_ne (fun z => by subst z; rw [ho] at ho0; cases ho0)]; exact hh0, el, this⟩
      | d _ => simp [M.kids] at hk
      | lst _ => simp [M.kids] at hk
      | dk _ => simp [M.kids] at hk
      | dt _ => simp [M.kids] at hk
      | exn _ => simp [M.kids] at hk
    · obtain ⟨w, hw, rw'⟩ := r.sl i x hm
      refine ⟨w, hw, rw'.stay (Le.refl _) fun b u _ e1 e2 => ⟨?_, e1⟩⟩
      rw [upd_ne (fun z => by subst z; rw [ho] at e1; cases e1; exact ne rfl)]
      exact e2
end

/-! ### a slot hidden while something else is reckoned -/
noncomputable def hidO (j : Nat) (O : OW) : OW := fun a => match O a with
  | some (.s i, p) => if i = j then none else some (.s i, p)
  | some (.r, p) => some (.r, p)
  | none => none
noncomputable def unhO (j : Nat) (O O2 : OW) : OW := fun a => match O a with
  | some (.s i, p) => if i = j then some (.s i, p) else O2 a
  | _ => O2 a
section
variable {K : KG} {H F H2 F2 : Hp} {O O2 : OW} {σ : St} {S S2 : SS} {j k : Nat} {m0 m : M} {v0 v : V}
theorem hidO_some {a : Addr} {q : Pl} (h : hidO j O a = some q) : O a = some q ∧ ∀ p, O a ≠ some (.s j, p) := by
  unfold hidO at h
  cases e : O a with
  | none => rw [e] at h; cases h
  | some z =>
    obtain ⟨rt, p⟩ := z
    rw [e] at h
    cases rt with
    | r => cases h; exact ⟨rfl, fun p z => by cases z⟩
    | s i =>
      dsimp only at h
      split at h
      · cases h
      · rename_i ne; cases h; exact ⟨rfl, fun p z => by cases z; exact ne rfl⟩
theorem hidO_none {a : Addr} {p : List Nat} (h : O a = some (.s j, p)) : hidO j O a = none := by
  unfold hidO
  rw [h]
  dsimp only
  rw [if_pos rfl]
theorem hidO_keep {a : Addr} {i : Nat} {p : List Nat} (h : O a = some (.s i, p)) (ne : i ≠ j) : hidO j O a = some (.s i, p) := by
  unfold hidO
  rw [h]
  dsimp only
  rw [if_neg ne]
theorem hidO_of_none {a : Addr} (h : O a = none) : hidO j O a = none := by
  unfold hidO
  rw [h]
theorem Rp.hide (r : Rp K H F O σ S) : Rp K H F (hidO j O) σ (S.set j none) := by
  refine ⟨⟨r.bs.fh, fun a q e => r.bs.fo a q (hidO_some e).1⟩, by rw [List.length_set]; exact r.len, fun i x e => ?_⟩
  rcases SS.at_set e with ⟨e1, e2⟩ | ⟨ne, e⟩
  · cases e2
  · obtain ⟨w, hw, rm⟩ := r.sl i x e
    exact ⟨w, hw, rm.stay (Le.refl _) fun a o p e1 e2 => ⟨e2, hidO_keep e1 (Ne.symm ne)⟩⟩
/-- what belongs to the hidden slot is as it was -/
theorem hid_kept (r : Rp K H F O σ S) (st : Stp H F (hidO j O) H2 F2 O2) {a : Addr} {p : List Nat} (e : O a = some (.s j, p)) : (∀ o, H a = some o → H2 a = some o) ∧ O2 a = none ∧ F2 a = none := by
  obtain ⟨hF, o, hH⟩ := r.bs.fo a _ e
  refine ⟨fun u hu => st.kp a u hu (hidO_none e), ?_, ?_⟩
  · cases e2 : O2 a with
    | none => rfl
    | some q =>
      rcases st.nw a q e2 with ⟨q', z⟩ | z
      · rw [hidO_none e] at z; cases z
      · rw [hH] at z; cases z
  · cases e2 : F2 a with
    | none => rfl
    | some u =>
      rcases st.fz a u e2 with z | ⟨q', z⟩ | z
      · rw [hF] at z; cases z
      · rw [hidO_none e] at z; cases z
      · rw [hH] at z; cases z
theorem Rp.unhide (r : Rp K H F O σ S) (st : Stp H F (hidO j O) H2 F2 O2) (r2 : Rp K H2 F2 O2 σ S2) : Stp H F O H2 F2 (unhO j O O2) ∧ Rp K H2 F2 (unhO j O O2) σ (S2.set j (S.at j)) := by
  have uj : ∀ {a p}, O a = some (.s j, p) → unhO j O O2 a = some (.s j, p) := fun {a p} e => by unfold unhO; rw [e]; dsimp only; rw [if_pos rfl]
  have un : ∀ {a}, (∀ p, O a ≠ some (.s j, p)) → unhO j O O2 a = O2 a := fun {a} e => by
    unfold unhO
    split
    · rename_i i p e1
      split
      · rename_i ij; subst ij; exact absurd e1 (e p)
      · rfl
    · rfl
  have kept := fun {a p} (e : O a = some (.s j, p)) => hid_kept r st e
  have cs : ∀ a, (∃ p, O a = some (.s j, p)) ∨ ∀ p, O a ≠ some (.s j, p) := fun a => by
    by_cases h : ∃ p, O a = some (.s j, p)
    · exact .inl h
    · exact .inr fun p z => h ⟨p, z⟩
  refine ⟨⟨st.ff, fun a o ha e => st.kp a o ha (hidO_of_none e), fun a q e => ?_, fun a o e => ?_, st.al⟩, ⟨⟨r2.bs.fh, fun a q e => ?_⟩, by rw [List.length_set]; exact r2.len, fun i x e => ?_⟩⟩
  · rcases cs a with ⟨p, z⟩ | z
    · exact .inl ⟨_, z⟩
    · rw [un z] at e
      rcases st.nw a q e with ⟨q', z'⟩ | z'
      · exact .inl ⟨q', (hidO_some z').1⟩
      · exact .inr z'
  · rcases st.fz a o e with z | ⟨q, z⟩ | z
    · exact .inl z
    · exact .inr (.inl ⟨q, (hidO_some z).1⟩)
    · exact .inr (.inr z)
  · rcases cs a with ⟨p, z⟩ | z
    · obtain ⟨_, o, hH⟩ := r.bs.fo a _ z
      exact ⟨(kept z).2.2, o, (kept z).1 o hH⟩
    · rw [un z] at e
      exact r2.bs.fo a q e
  · rcases SS.at_set e with ⟨e1, e2⟩ | ⟨ne, e⟩
    · subst e1
      obtain ⟨w, hw, rm⟩ := r.sl j x e2
      exact ⟨w, hw, rm.stay st.ff fun a o p e3 e4 => ⟨(kept e3).1 o e4, uj e3⟩⟩
    · obtain ⟨w, hw, rm⟩ := r2.sl i x e
      refine ⟨w, hw, rm.stay (Le.refl _) fun a o p e3 e4 => ⟨e4, ?_⟩⟩
      rw [un fun p' z => by rw [(kept z).2.1] at e3; cases e3]
      exact e3
/-- the part is the same value still -/
theorem Rp.kidStay (r : Rp K H F O σ S) (st : Stp H F (hidO j O) H2 F2 O2) (fh : Le F2 H2) (e : S.at j = some m0) (hk : m0.kids[k]? = some m) (hv : σ[j]? = some (some v0)) (h : kidV H v0 k v) : kidV H2 v0 k v := by
  obtain ⟨w, hw, rm⟩ := r.sl j _ e
  rw [hv] at hw
  cases hw
  obtain ⟨a0, e0, h⟩ := h
  refine ⟨a0, e0, ?_⟩
  cases m0 with
  | seq ms =>
    obtain ⟨a, vs, e1, ho, hh, rs⟩ := rm
    rw [e0] at e1
    cases e1
    rcases h with ⟨vs', h1, h2⟩ | ⟨vs', h1, h2⟩ | ⟨C, dx, fs, h1, h2⟩ <;> rw [hh] at h1 <;> cases h1
    exact .inl ⟨_, (hid_kept r st ho).1 _ hh, h2⟩
  | box ms =>
    obtain ⟨a, vs, e1, hh, rs⟩ := rm
    rw [e0] at e1
    cases e1
    have hH := r.bs.fh _ _ hh
    rcases h with ⟨vs', h1, h2⟩ | ⟨vs', h1, h2⟩ | ⟨C, dx, fs, h1, h2⟩ <;> rw [hH] at h1 <;> cases h1
    exact .inr (.inl ⟨_, fh _ _ (st.ff _ _ hh), h2⟩)
  | ob c ns ms =>
    obtain ⟨a, C, dx, vs, e1, ho, hc, hh, el, rs⟩ := rm
    rw [e0] at e1
    cases e1
    rcases h with ⟨vs', h1, h2⟩ | ⟨vs', h1, h2⟩ | ⟨C, dx, fs, h1, h2⟩ <;> rw [hh] at h1 <;> cases h1
    exact .inr (.inr ⟨_, _, _, (hid_kept r st ho).1 _ hh, h2⟩)
  | d _ => simp [M.kids] at hk
  | lst _ => simp [M.kids] at hk
  | dk _ => simp [M.kids] at hk
  | dt _ => simp [M.kids] at hk
  | exn _ => simp [M.kids] at hk
end

/-! ### a part as a receiver -/
noncomputable def kidAt (j : Nat) (ci : M → Option Nat) (S : SS) : Option M := match S.at j with
  | some m0 => (match ci m0 with
    | some k => m0.kids[k]?
    | none => none)
  | none => none
noncomputable def kidSet (j : Nat) (ci : M → Option Nat) (x : M) (S : SS) : SS := match S.at j with
  | some m0 => (match ci m0 with
    | some k => S.set j (some (m0.setK k x))
    | none => S)
  | none => S
theorem kidAt_ok {j : Nat} {ci : M → Option Nat} {S : SS} {m : M} (h : kidAt j ci S = some m) : ∃ m0 k, S.at j = some m0 ∧ ci m0 = some k ∧ m0.kids[k]? = some m := by
  unfold kidAt at h
  cases e : S.at j with
  | none => rw [e] at h; cases h
  | some m0 =>
    rw [e] at h
    dsimp only at h
    cases e2 : ci m0 with
    | none => rw [e2] at h; cases h
    | some k => rw [e2] at h; exact ⟨m0, k, rfl, e2, h⟩
theorem kidSet_of {j k : Nat} {ci : M → Option Nat} {S : SS} {m0 x : M} (h : S.at j = some m0) (hk : ci m0 = some k) : kidSet j ci x S = S.set j (some (m0.setK k x)) := by
  unfold kidSet
  rw [h]
  dsimp only
  rw [hk]
noncomputable def rdC (K : KG) (j : Nat) (ci : M → Option Nat) : TE := fun σ H Q => ∃ F O S m0 k m, Rp K H F O σ S ∧ S.at j = some m0 ∧ ci m0 = some k ∧ m0.kids[k]? = some m ∧
  ∀ v0 v, σ[j]? = some (some v0) → kidV H v0 k v → RepM K H F O (.s j, [k]) v m → Q v H
noncomputable def ciI (i : Int) : M → Option Nat
  | .seq ms => ixN ms.length i
  | .box ms => ixN ms.length i
  | _ => none
noncomputable def ciF (c f : Str) : M → Option Nat
  | .ob c' ns _ => if c' = c then ns.findIdx? (fun x => x == f) else none
  | _ => none
/-- what of the text a class with a field must have -/
noncomputable def ClF (K : KG) (c f : Str) : Prop := ∀ C, K.cl c = some C → Cls K.k C ∧ NoAttr K.k C f
theorem lookup_at {α : Type} {f : Str} : ∀ {ns : List Str} {vs : List α} {k : Nat} {v : α}, ns.findIdx? (fun x => x == f) = some k → vs[k]? = some v → (ns.zip vs).lookup f = some v
  | [], vs, k, v, h, e => by simp at h
  | n :: ns, [], k, v, h, e => by simp at e
  | n :: ns, u :: vs, k, v, h, e => by
    rw [List.findIdx?_cons] at h
    rw [List.zip_cons_cons, List.lookup_cons]
    by_cases c : n = f
    · subst c
      simp only [beq_self_eq_true, if_true, Option.some.injEq] at h
      subst h
      simp only [beq_self_eq_true]
      simpa using e
    · have c1 : (n == f) = false := beq_eq_false_iff_ne.mpr c
      have c2 : (f == n) = false := beq_eq_false_iff_ne.mpr (Ne.symm c)
      rw [c1] at h
      simp only [Bool.false_eq_true, if_false, Option.map_eq_some_iff] at h
      obtain ⟨k', h1, h2⟩ := h
      subst h2
      rw [c2]
      exact lookup_at h1 (by simpa using e)
section
variable {X : Cx} {o b e : Expr} {pos : Pos} {j : Nat}
theorem pe_chI {i : Int} (ho : PE X o (tVar j)) (hb : PE X b (tC (.int i))) (hs : PlainIx b := by exact fun _ _ => rfl) : PE X (.Subscript o b pos) (rdC (kg X) j (ciI i)) := by
  refine PE.imp (pe_ix (ix_list.or ix_tup) ho hb hs) fun σ H Q ⟨F, O, S, m0, k, m, r, e, hc, hk, q⟩ => ?_
  obtain ⟨v0, v, hv, hkv, rm⟩ := r.kid e hk
  refine ⟨v0, hv, ?_⟩
  have fin := q v0 v hv hkv rm
  obtain ⟨w, hw, rm0⟩ := r.sl j _ e
  rw [hv] at hw
  cases hw
  obtain ⟨a0, e0, h⟩ := hkv
  have at_ : ∀ {vs : List V} {ms : List M}, vs.length = ms.length → ixN ms.length i = some k → vs[k]? = some v → atI vs i = some v := fun {vs ms} hl hc hv => by
    unfold atI
    rw [hl, hc]
    exact hv
  cases m0 with
  | seq ms =>
    obtain ⟨a, vs, e1, ho, hh, rs⟩ := rm0
    rw [e0] at e1
    cases e1
    rcases h with ⟨vs', h1, h2⟩ | ⟨vs', h1, h2⟩ | ⟨C, dx, fs, h1, h2⟩ <;> rw [hh] at h1 <;> cases h1
    exact .inl ⟨a0, vs, i, v, e0, rfl, .inl (.inl hh), at_ (RepMs.len rs) hc h2, fin⟩
  | box ms =>
    obtain ⟨a, vs, e1, hh, rs⟩ := rm0
    rw [e0] at e1
    cases e1
    have hH := r.bs.fh _ _ hh
    rcases h with ⟨vs', h1, h2⟩ | ⟨vs', h1, h2⟩ | ⟨C, dx, fs, h1, h2⟩ <;> rw [hH] at h1 <;> cases h1
    exact .inr ⟨a0, vs, i, v, e0, rfl, .inl (.inl hH), at_ (RepMs.len rs) hc h2, fin⟩
  | _ => cases hc
theorem pe_chF {c f : Str} (ho : PE X o (tVar j)) (cl : ClF (kg X) c f) (hb : attributeBase o f X.env (eval o X.env) = eval o X.env := by rfl) : PE X (.Attribute o f pos) (rdC (kg X) j (ciF c f)) := by
  refine PE.imp (pe_fld ho hb) fun σ H Q ⟨F, O, S, m0, k, m, r, e, hc, hk, q⟩ => ?_
  obtain ⟨v0, v, hv, hkv, rm⟩ := r.kid e hk
  refine ⟨v0, hv, ?_⟩
  have fin := q v0 v hv hkv rm
  obtain ⟨w, hw, rm0⟩ := r.sl j _ e
  rw [hv] at hw
  cases hw
  obtain ⟨a0, e0, h⟩ := hkv
  cases m0 with
  | ob c' ns ms =>
    obtain ⟨a, C, dx, vs, e1, ho, hC, hh, el, rs⟩ := rm0
    rw [e0] at e1
    cases e1
    have hc : (if c' = c then ns.findIdx? (fun x => x == f) else none) = some k := hc
    by_cases cc : c' = c
    · subst cc
      rw [if_pos rfl] at hc
      obtain ⟨c1, c2⟩ := cl C hC
      rcases h with ⟨vs', h1, h2⟩ | ⟨vs', h1, h2⟩ | ⟨C', dx', fs, h1, h2⟩ <;> rw [hh] at h1 <;> cases h1
      rw [zipSnd el] at h2
      exact ⟨a0, C, dx, _, v, e0, hh, c1, c2, lookup_at hc h2, fin⟩
    · rw [if_neg cc] at hc; cases hc
  | _ => cases hc
end

section
variable {K : KG} {H F H2 F2 : Hp} {O O2 : OW} {σ : St} {S S2 : SS} {j k : Nat} {m0 m : M} {v0 v : V}
/-- behind what was reckoned with the slot hidden -/
theorem Rp.kidBack (r : Rp K H F O σ S) (e : S.at j = some m0) (hk : m0.kids[k]? = some m) (hv : σ[j]? = some (some v0)) (hkv : kidV H v0 k v) (st : Stp H F (hidO j O) H2 F2 O2) (r2 : Rp K H2 F2 O2 σ S2) :
    Stp H F O H2 F2 (unhO j O O2) ∧ Rp K H2 F2 (unhO j O O2) σ (S2.set j (some m0)) ∧ SS.at (S2.set j (some m0)) j = some m0 ∧ kidV H2 v0 k v := by
  obtain ⟨st3, r3⟩ := r.unhide st r2
  rw [e] at r3
  refine ⟨st3, r3, SS.set_at ?_, r.kidStay st r2.bs.fh e hk hv hkv⟩
  rw [r2.len, ← r.len]
  unfold SS.at at e
  by_cases z : j < S.length
  · exact z
  · rw [List.getElem?_eq_none (by simpa using z)] at e; cases e
/-- a list part is a list -/
theorem tyV_kid {vs : List V} {a : Addr} (h : H a = some (.lst vs)) : tyV K.k "list" (.ref a) H := .inl ⟨rfl, vs, .inl (.inl h)⟩
end
section
variable {X : Cx} {o b e : Expr} {pos : Pos} {j : Nat} {ci : M → Option Nat} {apos cpos : Pos} {f : FE}
/-- part.append(e) -/
noncomputable def mAppC (j : Nat) (ci : M → Option Nat) (f : FE) : FM := fun S => match S.at j, kidAt j ci S with
  | some m0, some (.lst xs) => (f (S.set j none)).bind fun o S1 => match force o S1 with
    | some (x, S2) => if xs.length < line then .ok (.d .non) (kidSet j ci (.lst (xs ++ [x])) (S2.set j (some m0))) else .no
    | none => .no
  | _, _ => .no
theorem dm_appC (ho : PE X o (rdC (kg X) j ci)) (he : DE X f e) (hbase : attributeBase o "append" X.env (eval o X.env) = eval o X.env := by rfl)
    (hfew : ((backTo cpos (starEach [e] X.env)).all (fun x => !x.1) && (backToKw cpos (keywordEach [] X.env)).all (fun x => x.1.isSome)
      && decide ([e].length + ([] : List Keyword).length + (if ([] : List Keyword).isEmpty then 0 else 1) < 30)) = true := by rfl)
    (hline : (apos.endLine == cpos.line) = true := by rfl) (hs : starEach [e] X.env = (false, eval e X.env) :: starEach [] X.env := by rfl) (hplain : (backTo cpos (starEach [] X.env)).any (·.1) = false := by rfl) :
    DM X (mAppC j ci f) (.Call (.Attribute o "append" apos) [e] [] cpos) :=
  PE.imp (pe_bm PySem.F.plainAttrs_list PySem.F.slot_list_append PySem.F.type_list_append mt_append ho (pa_cons he pa_nil hs) hbase hfew hline hs hplain) fun σ H Q ⟨F, O, S, m, S', r, hf, k⟩ => by
    unfold mAppC at hf
    split at hf
    · rename_i m0 xs em ek
      obtain ⟨m0', kk, e1, e2, e3⟩ := kidAt_ok ek
      rw [em] at e1
      cases e1
      obtain ⟨oo, S1, h3, h4⟩ := R.bind_ok hf
      refine ⟨F, O, S, m0, kk, _, r, em, e2, e3, fun v0 v hv hkv rm => ?_⟩
      obtain ⟨a, vs, rfl, ho, hh, rd⟩ := rm
      refine ⟨tyV_kid (K := kg X) hh, F, hidO j O, S.set j none, oo, S1, r.hide, h3, fun u H1 F1 O1 st1 r1 ro => ?_⟩
      show rAppend (.ref a) [u] H1 Q
      cases ef : force oo S1 with
      | none => rw [ef] at h4; cases h4
      | some z =>
        obtain ⟨x, S2⟩ := z
        rw [ef] at h4
        dsimp only at h4
        obtain ⟨F2, O2, st2, r2, rx⟩ := force_ok r1 ro ef
        split at h4
        · rename_i hlt
          obtain ⟨st3, r3, at3, hkv3⟩ := r.kidBack em e3 hv hkv (st1.trans st2) r2
          obtain ⟨w0, a', vs', hw, hkv4, hH, rv, chg⟩ := r3.mutK at3 e3
          rw [hv] at hw
          cases hw
          have ea := hkv3.uniq hkv4
          cases ea
          rw [kidSet_of at3 e2] at h4
          cases h4
          obtain ⟨st4, r4⟩ := chg (vs' ++ [u]) (xs ++ [x]) (rv.snoc rx)
          have e5 : (S2.set j (some m0)).set j (some (m0.setK kk (.lst (xs ++ [x])))) = (S2.set j (some m0)).set j (some (m0.setK kk (.lst (xs ++ [x])))) := rfl
          exact ⟨a, vs', u, rfl, rfl, hH, by rw [rv.len, ← line_eq]; exact hlt, k _ _ _ _ (st3.trans st4) r4 .non⟩
        · cases h4
    · cases hf
/-- part.clear() -/
noncomputable def mClrC (j : Nat) (ci : M → Option Nat) : FM := fun S => match kidAt j ci S with
  | some (.lst xs) => .ok (.d .non) (kidSet j ci (.lst []) S)
  | _ => .no
theorem dm_clrC (ho : PE X o (rdC (kg X) j ci)) (hbase : attributeBase o "clear" X.env (eval o X.env) = eval o X.env := by rfl) (hline : (apos.endLine == cpos.line) = true := by rfl) :
    DM X (mClrC j ci) (.Call (.Attribute o "clear" apos) [] [] cpos) :=
  PE.imp (pe_bm0 PySem.F.plainAttrs_list PySem.F.slot_list_clear PySem.F.type_list_clear mt_clear ho hbase hline) fun σ H Q ⟨F, O, S, m, S', r, hf, k⟩ => by
    unfold mClrC at hf
    split at hf
    · rename_i xs ek
      obtain ⟨m0, kk, e1, e2, e3⟩ := kidAt_ok ek
      refine ⟨F, O, S, m0, kk, _, r, e1, e2, e3, fun v0 v hv hkv rm => ?_⟩
      obtain ⟨w0, a', vs', hw, hkv4, hH, rv, chg⟩ := r.mutK e1 e3
      rw [hv] at hw
      cases hw
      have ea := hkv.uniq hkv4
      cases ea
      rw [kidSet_of e1 e2] at hf
      cases hf
      obtain ⟨st3, r3⟩ := chg [] [] .nil
      exact ⟨tyV_kid (K := kg X) hH, a', vs', rfl, rfl, hH, k _ _ _ _ st3 r3 .non⟩
    · cases hf
end

/-! ### a look that changes nothing -/
noncomputable def allF (H F : Hp) (O : OW) : Hp := fun a => match O a with
  | some _ => H a
  | none => F a
noncomputable def SS.frzA (S : SS) : SS := S.map fun m => m.map fun x => .d x.toD
noncomputable def D.flat : D → Bool
  | .non => true
  | .bl _ => true
  | .int _ => true
  | .str _ => true
  | _ => false
noncomputable def M.flat : M → Bool
  | .d x => x.flat
  | .lst xs => xs.all D.flat
  | _ => false
section
variable {K : KG} {H F H2 F2 : Hp} {O O2 : OW} {σ : St} {S S2 : SS}
theorem RepD.unflat {v : V} {x : D} (h : RepD K F v x) (hx : x.flat = true) : RepD K F2 v x := by
  cases h with
  | non => exact .non
  | bl b => exact .bl b
  | int b => exact .int b
  | str b => exact .str b
  | _ => cases hx
theorem RepDs.unflat : ∀ {vs : List V} {xs : List D}, RepDs K F vs xs → xs.all D.flat = true → RepDs K F2 vs xs
  | _, _, .nil, _ => .nil
  | _, _, .cons h r, hx => by
    rw [List.all_cons, Bool.and_eq_true] at hx
    exact .cons (h.unflat hx.1) (RepDs.unflat r hx.2)
theorem SS.frzA_at {i : Nat} {m : M} (h : S.frzA.at i = some m) : ∃ m0, S.at i = some m0 ∧ m = .d m0.toD := by
  unfold SS.at SS.frzA at h
  rw [List.getElem?_map] at h
  cases e : S[i]? with
  | none => rw [e] at h; cases h
  | some x =>
    rw [e] at h
    cases x with
    | none => cases h
    | some m0 => cases h; exact ⟨m0, by unfold SS.at; rw [e]; rfl, rfl⟩
theorem Rp.frzA (r : Rp K H F O σ S) : Rp K H (allF H F O) (fun _ => none) σ S.frzA ∧ Stp H F O H (allF H F O) (fun _ => none) := by
  have ff : Le F (allF H F O) := fun a o e => by
    unfold allF
    cases eo : O a with
    | none => exact e
    | some q => rw [(r.bs.fo a q eo).1] at e; cases e
  have fh : Le (allF H F O) H := fun a o e => by
    unfold allF at e
    cases eo : O a with
    | none => rw [eo] at e; exact r.bs.fh a o e
    | some q => rw [eo] at e; exact e
  refine ⟨⟨⟨fh, fun a q e => by cases e⟩, by unfold SS.frzA; rw [List.length_map]; exact r.len, fun i m e => ?_⟩, ff, fun a o e _ => e, fun a q e => (by cases e), fun a o e => ?_, fun a o e => ⟨o, e⟩⟩
  · obtain ⟨m0, e1, rfl⟩ := SS.frzA_at e
    obtain ⟨v, hv, rm⟩ := r.sl i m0 e1
    exact ⟨v, hv, frzm ff (fun a o p e1 e2 => by unfold allF; rw [e1]; exact e2) rm⟩
  · unfold allF at e
    cases eo : O a with
    | none => rw [eo] at e; exact .inl e
    | some q => exact .inr (.inl ⟨q, rfl⟩)
/-- all is as it was behind a look -/
theorem Rp.back (r : Rp K H F O σ S) {F1 : Hp} (st : Stp H F1 (fun _ => none) H2 F2 O2) : Stp H F O H2 F O ∧ Rp K H2 F O σ S := by
  have kp : ∀ a o, H a = some o → H2 a = some o := fun a o e => st.kp a o e rfl
  refine ⟨⟨Le.refl _, fun a o e _ => kp a o e, fun a q e => .inl ⟨q, e⟩, fun a o e => .inl e, fun a o e => ⟨o, kp a o e⟩⟩, ⟨fun a o e => kp a o (r.bs.fh a o e), fun a q e => ?_⟩, r.len, fun i m e => ?_⟩
  · obtain ⟨h1, o, h2⟩ := r.bs.fo a q e
    exact ⟨h1, o, kp a o h2⟩
  · obtain ⟨v, hv, rm⟩ := r.sl i m e
    exact ⟨v, hv, rm.stay (Le.refl _) fun a o p e1 e2 => ⟨kp a o e2, e1⟩⟩
/-- a new list, claimed -/
theorem Rp.claimL {p : Addr} {vs' : List V} {ds : List D} (r : Rp K H F O σ S) (hF : F p = none) (hO : O p = none) (hH : H p = some (.lst vs')) (rd : RepDs K F vs' ds) : Rp K H F (ownR O p (.r, [])) σ S ∧ RepM K H F (ownR O p (.r, [])) (.r, []) (.ref p) (.lst ds) := r.claim hF hO hH rd
end
section
variable {X : Cx} {e : Expr}
noncomputable def mPeek (f : FM) : FM := fun S => match f S.frzA with
  | .ok m _ => if m.flat = true then .ok m S else .no
  | _ => .no
noncomputable def tPeek (f : FB) : FB := fun S => match f S.frzA with
  | .ok b _ => .ok b S
  | _ => .no
theorem dm_peek {f : FM} (h : DM X f e) : DM X (mPeek f) e := PE.imp h fun σ H Q ⟨F, O, S, m, S', r, hf, k⟩ => by
  unfold mPeek at hf
  obtain ⟨r1, st1⟩ := r.frzA
  split at hf
  · rename_i m' S1 ef
    split at hf
    · rename_i hm
      cases hf
      refine ⟨_, _, _, m, S1, r1, ef, fun v H2 F2 O2 st2 r2 rm => ?_⟩
      obtain ⟨st3, r3⟩ := r.back st2
      cases m with
      | d x => exact k v H2 F O st3 r3 (RepD.unflat rm hm)
      | lst xs =>
        obtain ⟨a, vs, rfl, ho, hh, rd⟩ := rm
        have ha : H a = none := by
          rcases st2.nw a _ ho with ⟨_, z⟩ | z
          · cases z
          · exact z
        obtain ⟨hF, hO⟩ := r.bs.free ha
        obtain ⟨r4, rm4⟩ := r3.claimL hF hO hh (RepDs.unflat rd hm)
        refine k _ H2 F _ ⟨st3.ff, st3.kp, fun b q e => ?_, st3.fz, st3.al⟩ r4 rm4
        unfold ownR at e
        split at e
        · rename_i z; subst z; exact .inr ha
        · exact .inl ⟨q, e⟩
      | _ => cases hm
    · cases hf
  · cases hf
theorem dt_peek {f : FB} (h : DT X f e) : DT X (tPeek f) e := PT.imp h fun σ H Q ⟨F, O, S, b, S', r, hf, k⟩ => by
  unfold tPeek at hf
  obtain ⟨r1, st1⟩ := r.frzA
  split at hf
  · rename_i m' S1 ef
    cases hf
    refine ⟨_, _, _, b, S1, r1, ef, fun H2 F2 O2 st2 r2 => ?_⟩
    obtain ⟨st3, r3⟩ := r.back st2
    exact k H2 F O st3 r3
  · cases hf
end

/-! ### displays of owned things -/
noncomputable def noR (O : OW) : OW := fun a => match O a with
  | some (.s i, p) => some (.s i, p)
  | _ => none
noncomputable def reR (n : Nat) (O O2 : OW) : OW := fun a => match O a with
  | some (.r, p) => some (.r, n :: p)
  | _ => O2 a
section
variable {K : KG} {H F H2 F2 : Hp} {O O2 : OW} {σ : St} {S S2 : SS} {n : Nat}
theorem noR_some {a : Addr} {q : Pl} (h : noR O a = some q) : O a = some q ∧ ∀ p, O a ≠ some (.r, p) := by
  unfold noR at h
  split at h
  · rename_i i p e; cases h; exact ⟨e, fun p z => by rw [e] at z; cases z⟩
  · cases h
theorem noR_none {a : Addr} {p : List Nat} (h : O a = some (.r, p)) : noR O a = none := by
  unfold noR
  rw [h]
theorem noR_of_none {a : Addr} (h : O a = none) : noR O a = none := by
  unfold noR
  rw [h]
theorem noR_keep {a : Addr} {i : Nat} {p : List Nat} (h : O a = some (.s i, p)) : noR O a = some (.s i, p) := by
  unfold noR
  rw [h]
theorem Rp.noR (r : Rp K H F O σ S) : Rp K H F (Ev.noR O) σ S :=
  ⟨⟨r.bs.fh, fun a q e => r.bs.fo a q (noR_some e).1⟩, r.len, fun i x e => by
    obtain ⟨w, hw, rm⟩ := r.sl i x e
    exact ⟨w, hw, rm.stay (Le.refl _) fun a o p e1 e2 => ⟨e2, noR_keep e1⟩⟩⟩
theorem noR_kept (r : Rp K H F O σ S) (st : Stp H F (Ev.noR O) H2 F2 O2) {a : Addr} {p : List Nat} (e : O a = some (.r, p)) : (∀ o, H a = some o → H2 a = some o) ∧ O2 a = none ∧ F2 a = none := by
  obtain ⟨hF, o, hH⟩ := r.bs.fo a _ e
  refine ⟨fun u hu => st.kp a u hu (noR_none e), ?_, ?_⟩
  · cases e2 : O2 a with
    | none => rfl
    | some q =>
      rcases st.nw a q e2 with ⟨q', z⟩ | z
      · rw [noR_none e] at z; cases z
      · rw [hH] at z; cases z
  · cases e2 : F2 a with
    | none => rfl
    | some u =>
      rcases st.fz a u e2 with z | ⟨q', z⟩ | z
      · rw [hF] at z; cases z
      · rw [noR_none e] at z; cases z
      · rw [hH] at z; cases z
/-- one more part of a display -/
theorem Rp.reR {v : V} {m : M} {vs : List V} {ms : List M} (r : Rp K H F O σ S) (rm : RepM K H F O (.r, []) v m) (st : Stp H F (Ev.noR O) H2 F2 O2) (r2 : Rp K H2 F2 O2 σ S2) (rs : RepMs K H2 F2 O2 (.r, []) (n + 1) vs ms) :
    Stp H F O H2 F2 (Ev.reR n O O2) ∧ Rp K H2 F2 (Ev.reR n O O2) σ S2 ∧ RepMs K H2 F2 (Ev.reR n O O2) (.r, []) n (v :: vs) (m :: ms) := by
  have uj : ∀ {a p}, O a = some (.r, p) → Ev.reR n O O2 a = some (.r, n :: p) := fun {a p} e => by unfold Ev.reR; rw [e]
  have un : ∀ {a}, (∀ p, O a ≠ some (.r, p)) → Ev.reR n O O2 a = O2 a := fun {a} e => by
    unfold Ev.reR
    split
    · rename_i p e1; exact absurd e1 (e p)
    · rfl
  have kept := fun {a p} (e : O a = some (.r, p)) => noR_kept r st e
  have cs : ∀ a, (∃ p, O a = some (.r, p)) ∨ ∀ p, O a ≠ some (.r, p) := fun a => by
    by_cases h : ∃ p, O a = some (.r, p)
    · exact .inl h
    · exact .inr fun p z => h ⟨p, z⟩
  have not2 : ∀ {a q}, O2 a = some q → Ev.reR n O O2 a = some q := fun {a q} e => by
    rw [un fun p z => by rw [(kept z).2.1] at e; cases e]
    exact e
  refine ⟨⟨st.ff, fun a o ha e => st.kp a o ha (noR_of_none e), fun a q e => ?_, fun a o e => ?_, st.al⟩, ⟨⟨r2.bs.fh, fun a q e => ?_⟩, r2.len, fun i x e => ?_⟩, v, vs, rfl, ?_, ?_⟩
  · rcases cs a with ⟨p, z⟩ | z
    · exact .inl ⟨_, z⟩
    · rw [un z] at e
      rcases st.nw a q e with ⟨q', z'⟩ | z'
      · exact .inl ⟨q', (noR_some z').1⟩
      · exact .inr z'
  · rcases st.fz a o e with z | ⟨q, z⟩ | z
    · exact .inl z
    · exact .inr (.inl ⟨q, (noR_some z).1⟩)
    · exact .inr (.inr z)
  · rcases cs a with ⟨p, z⟩ | z
    · obtain ⟨_, o, hH⟩ := r.bs.fo a _ z
      exact ⟨(kept z).2.2, o, (kept z).1 o hH⟩
    · rw [un z] at e
      exact r2.bs.fo a q e
  · obtain ⟨w, hw, rm⟩ := r2.sl i x e
    exact ⟨w, hw, rm.stay (Le.refl _) fun a o p e3 e4 => ⟨e4, not2 e3⟩⟩
  · exact RepM.rel (z := .r) (z' := .r) (p0 := []) (p1 := [n]) (s := []) st.ff (fun a o s e3 e4 => ⟨(kept e3).1 o e4, uj e3⟩) rm
  · refine RepMs.all (fun i v m h => ?_) rs
    exact h.stay (Le.refl _) fun a o p e3 e4 => ⟨e4, not2 e3⟩
end
noncomputable abbrev FAM := SS → R (List M)
noncomputable def rdAM (K : KG) (n : Nat) (f : FAM) : TA := fun σ H Q => ∃ F O S ms S', Rp K H F O σ S ∧ f S = .ok ms S' ∧
  ∀ vs H' F' O', Stp H F O H' F' O' → Rp K H' F' O' σ S' → RepMs K H' F' O' (.r, []) n vs ms → Q vs H'
noncomputable def amNil : FAM := fun S => .ok [] S
noncomputable def amCons (f : FM) (g : FAM) : FAM := fun S => (f S).bind fun m S => (g S).bind fun ms S => .ok (m :: ms) S
section
variable {X : Cx} {e : Expr} {es : List Expr} {pos : Pos} {n : Nat}
theorem dam_nil : PA X [] (rdAM (kg X) n amNil) := PA.imp pa_nil fun σ H Q ⟨F, O, S, ms, S', r, hf, k⟩ => by
  cases hf
  exact k [] H F O (Stp.refl _ _ _) r rfl
theorem dam_cons {f : FM} {g : FAM} (ha : DM X f e) (hr : PA X es (rdAM (kg X) (n + 1) g)) (hs : starEach (e :: es) X.env = (false, eval e X.env) :: starEach es X.env := by rfl) : PA X (e :: es) (rdAM (kg X) n (amCons f g)) := by
  refine PA.imp (pa_cons ha hr hs) fun σ H Q ⟨F, O, S, ms, S', r, hf, k⟩ => ?_
  obtain ⟨m, S1, h1, h2⟩ := R.bind_ok hf
  obtain ⟨mr, S2, h3, h4⟩ := R.bind_ok h2
  cases h4
  refine ⟨F, O, S, m, S1, r, h1, fun v H1 F1 O1 st1 r1 rm => ⟨F1, Ev.noR O1, S1, mr, S', r1.noR, h3, fun vs H2 F2 O2 st2 r2 rs => ?_⟩⟩
  obtain ⟨st3, r3, rs3⟩ := r1.reR rm st2 r2 rs
  exact k (v :: vs) H2 F2 _ (st1.trans st3) r3 rs3
noncomputable def mBox (f : FAM) : FM := fun S => (f S).bind fun ms S => if ms.length ≤ line then .ok (.box ms) S else .no
theorem dm_box {f : FAM} {k : Nat} (h : PA X es (rdAM (kg X) 0 f)) : DM X (mBox f) (.Tuple es k pos) := by
  refine PE.imp (pe_tup h) fun σ H Q ⟨F, O, S, m, S', r, hf, k⟩ => ?_
  obtain ⟨ms, S1, h1, h2⟩ := R.bind_ok hf
  split at h2
  · rename_i hl
    cases h2
    refine ⟨F, O, S, ms, S', r, h1, fun vs H1 F1 O1 st1 r1 rs => ⟨by rw [RepMs.len rs, ← line_eq]; exact hl, fun p hp => ?_⟩⟩
    obtain ⟨st2, r2⟩ := r1.layF (o := .tup vs) hp
    refine k _ _ _ _ (st1.trans st2) r2 ⟨p, vs, rfl, upd_same, RepMs.all (fun i v m h => ?_) rs⟩
    exact h.stay st2.ff fun a o s e1 e2 => ⟨Le.upd1 hp a o e2, e1⟩
  · cases h2
end

/-! ### a part is set -/
noncomputable def mvK (j k : Nat) (O : OW) : OW := fun a => match O a with
  | some (.r, p) => some (.s j, k :: p)
  | some (.s i, p) => if i = j ∧ p.head? = some k then none else some (.s i, p)
  | none => none
/-- a field put: where it is, or at the end -/
noncomputable def fput {α : Type} (ns : List Str) (xs : List α) (f : Str) (x : α) : List Str × List α := match ns.findIdx? (fun y => y == f) with
  | some k => (ns, xs.set k x)
  | none => (ns ++ [f], xs ++ [x])
theorem putF_zip {f : Str} {v : V} : ∀ {ns : List Str} {vs : List V}, ns.length = vs.length → putF f v (ns.zip vs) = (fput ns vs f v).1.zip (fput ns vs f v).2
  | [], [], _ => by simp [fput, putF]
  | n :: ns, [], h => by simp at h
  | [], u :: vs, h => by simp at h
  | n :: ns, u :: vs, h => by
    have ih := putF_zip (f := f) (v := v) (ns := ns) (vs := vs) (by simpa using h)
    have hl : ns.length = vs.length := by simpa using h
    show (if n = f then (n, v) :: ns.zip vs else (n, u) :: putF f v (ns.zip vs)) = _
    unfold fput at ih ⊢
    rw [List.findIdx?_cons]
    by_cases c : n = f
    · subst c
      simp
    · have c1 : (n == f) = false := beq_eq_false_iff_ne.mpr c
      rw [if_neg c, c1, ih]
      simp only [Bool.false_eq_true, if_false]
      cases e : ns.findIdx? (fun y => y == f) with
      | none => simp
      | some k => simp
theorem RepMs.snoc {K : KG} {H F : Hp} {O : OW} {q : Pl} {v : V} {m : M} : ∀ {ms : List M} {n : Nat} {vs : List V}, RepMs K H F O q n vs ms → RepM K H F O (q.1, q.2 ++ [n + ms.length]) v m → RepMs K H F O q n (vs ++ [v]) (ms ++ [m])
  | [], n, vs, h, hm => by
    rw [show vs = [] from h]
    exact ⟨v, [], rfl, hm, rfl⟩
  | x :: ms, n, vs, h, hm => by
    obtain ⟨u, vs', e, h1, h2⟩ := h
    subst e
    refine ⟨u, vs' ++ [v], rfl, h1, RepMs.snoc h2 ?_⟩
    have z : n + 1 + ms.length = n + (x :: ms).length := by rw [List.length_cons]; omega
    rw [z]
    exact hm
theorem RepMs.allB {K : KG} {H F H' F' : Hp} {O O' : OW} {q q' : Pl} : ∀ {ms : List M} {n : Nat} {vs : List V}, (∀ i v m, i < n + ms.length → RepM K H F O (q.1, q.2 ++ [i]) v m → RepM K H' F' O' (q'.1, q'.2 ++ [i]) v m) → RepMs K H F O q n vs ms → RepMs K H' F' O' q' n vs ms
  | [], n, vs, keep, h => h
  | x :: ms, n, vs, keep, h => by
    obtain ⟨v, vs', ev, h1, h2⟩ := h
    exact ⟨v, vs', ev, keep _ _ _ (by rw [List.length_cons]; omega) h1, RepMs.allB (fun i v m hi => keep i v m (by rw [List.length_cons]; omega)) h2⟩
section
variable {K : KG} {H F : Hp} {O : OW} {σ : St} {S : SS} {j k : Nat} {m : M} {v : V}
theorem mvK_some {a : Addr} {q : Pl} (h : mvK j k O a = some q) : ∃ q', O a = some q' := by
  unfold mvK at h
  cases e : O a with
  | none => rw [e] at h; cases h
  | some z => exact ⟨z, rfl⟩
/-- the object at a0, which has the slot's own place, is changed, and the result put as its k-th part -/
theorem Rp.putAt {a0 : Addr} {o1 : HO} {m1 : M} {v0 : V} (r : Rp K H F O σ S) (hv : σ[j]? = some (some v0)) (ho : O a0 = some (.s j, []))
    (hm : (∀ i u x, i ≠ k → RepM K H F O (.s j, [i]) u x → RepM K (upd H a0 o1) F (mvK j k O) (.s j, [i]) u x) → RepM K (upd H a0 o1) F (mvK j k O) (.s j, [k]) v m → upd H a0 o1 a0 = some o1 → mvK j k O a0 = some (.s j, []) → RepM K (upd H a0 o1) F (mvK j k O) (.s j, []) v0 m1)
    (rm : RepM K H F O (.r, []) v m) : Stp H F O (upd H a0 o1) F (mvK j k O) ∧ Rp K (upd H a0 o1) F (mvK j k O) σ (S.set j (some m1)) := by
  have hF := (r.bs.fo a0 _ ho).1
  have o0 : mvK j k O a0 = some (.s j, []) := by unfold mvK; rw [ho]; simp
  refine ⟨⟨Le.refl _, fun b u hb eb => ?_, fun b q hb => .inl (mvK_some hb), fun b u hb => .inl hb, al_upd⟩, ⟨⟨fun b u hb => ?_, fun b q hb => ?_⟩, by rw [List.length_set]; exact r.len, fun i x hx => ?_⟩⟩
  · rw [upd_ne (fun z => by subst z; rw [ho] at eb; cases eb)]; exact hb
  · rw [upd_ne (ne_of_none hb hF)]; exact r.bs.fh b u hb
  · obtain ⟨q', e⟩ := mvK_some hb
    obtain ⟨h1, u, hu⟩ := r.bs.fo b q' e
    exact ⟨h1, al_upd b u hu⟩
  · rcases SS.at_set hx with ⟨e1, e2⟩ | ⟨ne, hx⟩
    · subst e1
      cases e2
      refine ⟨v0, hv, hm (fun i u x hi rx => ?_) ?_ upd_same o0⟩
      · exact RepM.rel (z := .s j) (z' := .s j) (p0 := [i]) (p1 := [i]) (s := []) (Le.refl _) (fun b u s e1 e2 => ⟨by
          rw [upd_ne (fun z => by subst z; rw [ho] at e1; cases e1)]; exact e2, by
          unfold mvK; rw [e1]; dsimp only; rw [if_neg (fun z => hi (by simpa using z.2))]⟩) rx
      · exact RepM.rel (z := .r) (z' := .s j) (p0 := []) (p1 := [k]) (s := []) (Le.refl _) (fun b u s e1 e2 => ⟨by
          rw [upd_ne (fun z => by subst z; rw [ho] at e1; cases e1)]; exact e2, by
          have e1 : O b = some (.r, s) := e1
          unfold mvK; rw [e1]; rfl⟩) rm
    · obtain ⟨w, hw, rw'⟩ := r.sl i x hx
      refine ⟨w, hw, rw'.stay (Le.refl _) fun b u p e1 e2 => ⟨?_, ?_⟩⟩
      · rw [upd_ne (fun z => by subst z; rw [ho] at e1; cases e1; exact ne rfl)]
        exact e2
      · unfold mvK; rw [e1]; dsimp only; rw [if_neg (fun z => ne z.1.symm)]
noncomputable def M.fput : M → Str → M → M
  | .ob c ns ms, f, x => .ob c (Ev.fput ns ms f x).1 (Ev.fput ns ms f x).2
  | m, _, _ => m
theorem Rp.putOb {c f : Str} {ns : List Str} {ms : List M} (r : Rp K H F O σ S) (e : S.at j = some (.ob c ns ms)) (rm : RepM K H F O (.r, []) v m) : ∃ a0 C dx vs0 O', σ[j]? = some (some (.ref a0)) ∧ K.cl c = some C ∧ H a0 = some (.ins C dx (ns.zip vs0)) ∧ ns.length = vs0.length ∧ ns.length = ms.length ∧
    Stp H F O (upd H a0 (.ins C dx (putF f v (ns.zip vs0)))) F O' ∧ Rp K (upd H a0 (.ins C dx (putF f v (ns.zip vs0)))) F O' σ (S.set j (some (M.fput (.ob c ns ms) f m))) := by
  obtain ⟨v0, hv, a0, C, dx, vs0, rfl, ho, hc, hh, el, rs⟩ := r.sl j _ e
  have hl := RepMs.len rs
  have e2 := putF_zip (f := f) (v := v) el
  cases ef : ns.findIdx? (fun y => y == f) with
  | some k =>
    have e3 : Ev.fput ns vs0 f v = (ns, vs0.set k v) := by unfold Ev.fput; rw [ef]
    have e4 : Ev.fput ns ms f m = (ns, ms.set k m) := by unfold Ev.fput; rw [ef]
    refine ⟨a0, C, dx, vs0, mvK j k O, hv, hc, hh, el, by rw [el, hl], ?_⟩
    refine r.putAt hv ho (fun keep new h1 h2 => ?_) rm
    show RepM K _ F _ (.s j, []) (.ref a0) (.ob c (Ev.fput ns ms f m).1 (Ev.fput ns ms f m).2)
    rw [e4]
    refine ⟨a0, C, dx, vs0.set k v, rfl, h2, hc, by rw [h1, e2, e3], by rw [List.length_set]; exact el, ?_⟩
    exact RepMs.put (q := (.s j, [])) (q' := (.s j, [])) (n := 0) (fun i v m hi => keep i v m (by rw [Nat.zero_add] at hi; exact hi)) (by rw [Nat.zero_add]; exact new) rs
  | none =>
    have e3 : Ev.fput ns vs0 f v = (ns ++ [f], vs0 ++ [v]) := by unfold Ev.fput; rw [ef]
    have e4 : Ev.fput ns ms f m = (ns ++ [f], ms ++ [m]) := by unfold Ev.fput; rw [ef]
    refine ⟨a0, C, dx, vs0, mvK j ms.length O, hv, hc, hh, el, by rw [el, hl], ?_⟩
    refine r.putAt hv ho (fun keep new h1 h2 => ?_) rm
    show RepM K _ F _ (.s j, []) (.ref a0) (.ob c (Ev.fput ns ms f m).1 (Ev.fput ns ms f m).2)
    rw [e4]
    refine ⟨a0, C, dx, vs0 ++ [v], rfl, h2, hc, by rw [h1, e2, e3], by rw [List.length_append, List.length_append, el]; rfl, ?_⟩
    refine RepMs.snoc ?_ (by rw [Nat.zero_add]; exact new)
    exact RepMs.allB (q := (.s j, [])) (q' := (.s j, [])) (fun i v m hi h => keep i v m (by omega) h) rs
end

section
variable {X : Cx} {kp : Nat → Bool} {o b e i : Expr} {pos spos : Pos} {j : Nat}
/-- x.f = e -/
noncomputable def sSetF (j : Nat) (c f : Str) (fm : FM) : FS := fun S => (fm S).bind fun m S1 => match S1.at j with
  | some (.ob c' ns ms) => if c' = c ∧ ns.length < 1000 then .ok .nx (S1.set j (some (M.fput (.ob c' ns ms) f m))) else .no
  | _ => .no
theorem zip_len {α β : Type} {xs : List α} {ys : List β} : (xs.zip ys).length ≤ xs.length := by rw [List.length_zip]; exact Nat.min_le_left _ _
theorem ds_setF {c f : Str} {fm : FM} (he : DM X fm e) (ho : PE X o (tVar j)) (cl : ClF (kg X) c f)
    (hs : swapsWith e (some (.Attribute o f pos)) spos.line X.env = pure false := by rfl) : DS X kp (sSetF j c f fm) (.Assign [.Attribute o f pos] e spos) :=
  PS.imp (ps_fld ho he hs) fun D σ H ⟨F, O, S, fl, S', r, hf, k⟩ => by
    obtain ⟨m, S1, h1, h2⟩ := R.bind_ok hf
    refine ⟨F, O, S, m, S1, r, h1, fun v H1 F1 O1 st1 r1 rm => ?_⟩
    split at h2
    · rename_i c' ns ms em
      split at h2
      · rename_i hc
        cases h2
        obtain ⟨rfl, hn⟩ := hc
        obtain ⟨a0, C, dx, vs0, O', hv, hC, hh, el, el2, st2, r2⟩ := r1.putOb (f := f) em rm
        obtain ⟨c1, c2⟩ := cl C hC
        exact ⟨_, hv, a0, C, dx, _, rfl, hh, c1, c2, Nat.lt_of_le_of_lt zip_len hn, k σ _ _ _ (st1.trans st2) r2 (Kp.refl _ _)⟩
      · cases h2
    · cases h2
/-- the field of an operand -/
noncomputable def fldD (c f : Str) : D → Option D
  | .obj c' fs => if c' = c then fs.lookup f else none
  | _ => none
noncomputable def fldO (c f : Str) (o : Ov) (S : SS) : Option D := match o with
  | .d x => fldD c f x
  | .j i => match S.at i with
    | some (.d x) => fldD c f x
    | some (.ob c' ns ms) => if c' = c then (match ns.findIdx? (fun y => y == f) with
      | some k => (match ms[k]? with
        | some (.d x) => some x
        | _ => none)
      | none => none) else none
    | _ => none
noncomputable def eFld (c f : Str) (fe : FE) : FE := fun S => (fe S).bind fun o S1 => match fldO c f o S1 with
  | some d => .ok (.d d) S1
  | none => .no
theorem lookup_repd {K : KG} {F : Hp} {f : Str} : ∀ {ns : List Str} {vs : List V} {ds : List D} {d : D}, RepDs K F vs ds → (ns.zip ds).lookup f = some d → ∃ v, (ns.zip vs).lookup f = some v ∧ RepD K F v d
  | [], vs, ds, d, h, e => by simp at e
  | n :: ns, _, _, d, .nil, e => by simp at e
  | n :: ns, _, _, d, .cons (v := v) (d := x) h hs, e => by
    rw [List.zip_cons_cons, List.lookup_cons] at e ⊢
    cases c : (f == n) with
    | true => rw [c] at e; cases e; exact ⟨v, rfl, h⟩
    | false => rw [c] at e; exact lookup_repd hs e
theorem fldO_ok {K : KG} {H F : Hp} {O : OW} {σ : St} {S : SS} {c f : Str} {o : Ov} {d : D} {v : V} (r : Rp K H F O σ S) (cl : ClF K c f) (ro : RepOv K F σ v o) (h : fldO c f o S = some d) :
    ∃ a C dx fs u, K.cl c = some C ∧ v = .ref a ∧ H a = some (.ins C dx fs) ∧ Cls K.k C ∧ NoAttr K.k C f ∧ fs.lookup f = some u ∧ RepD K F u d := by
  have fz : ∀ {v : V} {x : D}, RepD K F v x → fldD c f x = some d → ∃ a C dx fs u, K.cl c = some C ∧ v = .ref a ∧ H a = some (.ins C dx fs) ∧ Cls K.k C ∧ NoAttr K.k C f ∧ fs.lookup f = some u ∧ RepD K F u d := fun {v x} rd e => by
    cases rd with
    | obj hc hh el rds =>
      rename_i a C dx c' ns vs ds
      have e2 : (if c' = c then (ns.zip ds).lookup f else none) = some d := e
      by_cases cc : c' = c
      · rw [if_pos cc] at e2
        subst cc
        obtain ⟨c1, c2⟩ := cl C hc
        obtain ⟨u, h1, h2⟩ := lookup_repd rds e2
        exact ⟨a, C, dx, _, u, hc, rfl, r.bs.fh _ _ hh, c1, c2, h1, h2⟩
      · rw [if_neg cc] at e2; cases e2
    | _ => cases e
  cases o with
  | d x => exact fz ro h
  | j i =>
    have hz : (match S.at i with
      | some (.d x) => fldD c f x
      | some (.ob c' ns ms) => if c' = c then (match ns.findIdx? (fun y => y == f) with
        | some k => (match ms[k]? with
          | some (.d x) => some x
          | _ => none)
        | none => none) else none
      | _ => none) = some d := h
    clear h
    have z : σ[i]? = some (some v) := ro
    cases em : S.at i with
    | none => rw [em] at hz; cases hz
    | some m =>
      rw [em] at hz
      obtain ⟨w, hw, rm⟩ := r.sl i _ em
      rw [hw] at z
      cases z
      cases m with
      | d x => exact fz rm hz
      | ob c' ns ms =>
        dsimp only at hz
        by_cases cc : c' = c
        · rw [if_pos cc] at hz
          subst cc
          cases hk : ns.findIdx? (fun y => y == f) with
          | none => rw [hk] at hz; cases hz
          | some k =>
            rw [hk] at hz
            dsimp only at hz
            cases hx : ms[k]? with
            | none => rw [hx] at hz; cases hz
            | some mx =>
              rw [hx] at hz
              cases mx with
              | d x =>
                cases hz
                obtain ⟨a, C, dx, vs, e1, ho, hC, hh, el, rs⟩ := rm
                obtain ⟨c1, c2⟩ := cl C hC
                obtain ⟨u, h1, h2⟩ := RepMs.get rs hx
                exact ⟨a, C, dx, _, u, hC, e1, hh, c1, c2, lookup_at hk h1, h2⟩
              | _ => cases hz
        · rw [if_neg cc] at hz; cases hz
      | _ => cases hz
theorem de_fld {c f : Str} {fe : FE} (he : DE X fe o) (cl : ClF (kg X) c f) (hb : attributeBase o f X.env (eval o X.env) = eval o X.env := by rfl) : DE X (eFld c f fe) (.Attribute o f pos) :=
  PE.imp (pe_fld he hb) fun σ H Q ⟨F, O, S, oo, S', r, hf, k⟩ => by
    obtain ⟨o1, S1, h1, h2⟩ := R.bind_ok hf
    refine ⟨F, O, S, o1, S1, r, h1, fun v H1 F1 O1 st1 r1 ro => ?_⟩
    cases e : fldO c f o1 S1 with
    | none => rw [e] at h2; cases h2
    | some d =>
      rw [e] at h2
      cases h2
      obtain ⟨a, C, dx, fs, u, hC, e1, hh, c1, c2, hl, rd⟩ := fldO_ok r1 cl ro e
      exact ⟨a, C, dx, fs, u, e1, hh, c1, c2, hl, k u H1 F1 O1 st1 r1 rd⟩
end

/-! ### for x in xs: x.append(const), xs a list of owned lists -/
/-- a slot's value changed, and forgotten -/
theorem Rp.over {K : KG} {H F : Hp} {O : OW} {σ : St} {S : SS} {i : Nat} {v : Option V} (r : Rp K H F O σ S) : Rp K H F O (σ.set i v) (S.set i none) := by
  refine ⟨r.bs, by rw [List.length_set, List.length_set]; exact r.len, fun q x hq => ?_⟩
  rcases SS.at_set hq with ⟨z1, z2⟩ | ⟨ne, hq⟩
  · cases z2
  · obtain ⟨w, hw, rm⟩ := r.sl q x hq
    exact ⟨w, by rw [List.getElem?_set_ne ne]; exact hw, rm⟩
section
variable {X : Cx} {kp : Nat → Bool} {tg it o c : Expr} {pos p1 p2 p3 apos cpos : Pos} {j i : Nat} {v : V} {d : D}
end

/-! ### the words, to be reckoned -/
@[simp] theorem frzA_nil : SS.frzA [] = [] := (rfl)
@[simp] theorem frzA_none (S : SS) : SS.frzA (none :: S) = none :: SS.frzA S := (rfl)
@[simp] theorem frzA_some (m : M) (S : SS) : SS.frzA (some m :: S) = some (.d m.toD) :: SS.frzA S := (rfl)
@[simp] theorem flat_d (x : D) : M.flat (.d x) = x.flat := (rfl)
@[simp] theorem flat_lst (xs : List D) : M.flat (.lst xs) = xs.all D.flat := (rfl)
@[simp] theorem dflat_non : D.flat .non = true := (rfl)
@[simp] theorem dflat_bl (b : Bool) : D.flat (.bl b) = true := (rfl)
@[simp] theorem dflat_int (i : Int) : D.flat (.int i) = true := (rfl)
@[simp] theorem dflat_str (x : Str) : D.flat (.str x) = true := (rfl)
@[simp] theorem mPeek_ap (f : FM) (S : SS) : mPeek f S = match f S.frzA with | .ok m _ => if m.flat = true then .ok m S else .no | _ => .no := (rfl)
@[simp] theorem tPeek_ap (f : FB) (S : SS) : tPeek f S = match f S.frzA with | .ok b _ => .ok b S | _ => .no := (rfl)
@[simp] theorem mAppC_ap (j : Nat) (ci : M → Option Nat) (f : FE) (S : SS) : mAppC j ci f S = match S.at j, kidAt j ci S with
  | some m0, some (.lst xs) => (f (S.set j none)).bind fun o S1 => match force o S1 with
    | some (x, S2) => if xs.length < line then .ok (.d .non) (kidSet j ci (.lst (xs ++ [x])) (S2.set j (some m0))) else .no
    | none => .no
  | _, _ => .no := (rfl)
@[simp] theorem mClrC_ap (j : Nat) (ci : M → Option Nat) (S : SS) : mClrC j ci S = match kidAt j ci S with
  | some (.lst xs) => .ok (.d .non) (kidSet j ci (.lst []) S)
  | _ => .no := (rfl)
@[simp] theorem amNil_ap (S : SS) : amNil S = .ok [] S := (rfl)
@[simp] theorem amCons_ap (f : FM) (g : FAM) (S : SS) : amCons f g S = (f S).bind fun m S => (g S).bind fun ms S => .ok (m :: ms) S := (rfl)
@[simp] theorem mBox_ap (f : FAM) (S : SS) : mBox f S = (f S).bind fun ms S => if ms.length ≤ 16777216 then .ok (.box ms) S else .no := (rfl)
@[simp] theorem kidAt_ap (j : Nat) (ci : M → Option Nat) (S : SS) : kidAt j ci S = match S.at j with
  | some m0 => (match ci m0 with
    | some k => m0.kids[k]?
    | none => none)
  | none => none := (rfl)
@[simp] theorem kidSet_ap (j : Nat) (ci : M → Option Nat) (x : M) (S : SS) : kidSet j ci x S = match S.at j with
  | some m0 => (match ci m0 with
    | some k => S.set j (some (m0.setK k x))
    | none => S)
  | none => S := (rfl)
@[simp] theorem kids_seq (ms : List M) : M.kids (.seq ms) = ms := (rfl)
@[simp] theorem kids_box (ms : List M) : M.kids (.box ms) = ms := (rfl)
@[simp] theorem kids_ob (c : Str) (ns : List Str) (ms : List M) : M.kids (.ob c ns ms) = ms := (rfl)
@[simp] theorem setK_seq (ms : List M) (k : Nat) (x : M) : M.setK (.seq ms) k x = .seq (ms.set k x) := (rfl)
@[simp] theorem setK_box (ms : List M) (k : Nat) (x : M) : M.setK (.box ms) k x = .box (ms.set k x) := (rfl)
@[simp] theorem setK_ob (c : Str) (ns : List Str) (ms : List M) (k : Nat) (x : M) : M.setK (.ob c ns ms) k x = .ob c ns (ms.set k x) := (rfl)
@[simp] theorem ciI_seq (i : Int) (ms : List M) : ciI i (.seq ms) = ixN ms.length i := (rfl)
@[simp] theorem ciI_box (i : Int) (ms : List M) : ciI i (.box ms) = ixN ms.length i := (rfl)
@[simp] theorem ciF_ob (c f c' : Str) (ns : List Str) (ms : List M) : ciF c f (.ob c' ns ms) = if c' = c then ns.findIdx? (fun x => x == f) else none := (rfl)
@[simp] theorem sSetF_ap (j : Nat) (c f : Str) (fm : FM) (S : SS) : sSetF j c f fm S = (fm S).bind fun m S1 => match S1.at j with
  | some (.ob c' ns ms) => if c' = c ∧ ns.length < 1000 then .ok .nx (S1.set j (some (M.fput (.ob c' ns ms) f m))) else .no
  | _ => .no := (rfl)
@[simp] theorem mfput_ap (c f : Str) (ns : List Str) (ms : List M) (x : M) : M.fput (.ob c ns ms) f x = .ob c (fput ns ms f x).1 (fput ns ms f x).2 := (rfl)
@[simp] theorem fput_ap {α : Type} (ns : List Str) (xs : List α) (f : Str) (x : α) : fput ns xs f x = match ns.findIdx? (fun y => y == f) with
  | some k => (ns, xs.set k x)
  | none => (ns ++ [f], xs ++ [x]) := (rfl)
@[simp] theorem fldD_obj (c f c' : Str) (fs : List (Str × D)) : fldD c f (.obj c' fs) = if c' = c then fs.lookup f else none := (rfl)
@[simp] theorem fldO_d (c f : Str) (x : D) (S : SS) : fldO c f (.d x) S = fldD c f x := (rfl)
@[simp] theorem fldO_j (c f : Str) (i : Nat) (S : SS) : fldO c f (.j i) S = match S.at i with
    | some (.d x) => fldD c f x
    | some (.ob c' ns ms) => if c' = c then (match ns.findIdx? (fun y => y == f) with
      | some k => (match ms[k]? with
        | some (.d x) => some x
        | _ => none)
      | none => none) else none
    | _ => none := (rfl)
@[simp] theorem eFld_ap (c f : Str) (fe : FE) (S : SS) : eFld c f fe S = (fe S).bind fun o S1 => match fldO c f o S1 with
  | some d => .ok (.d d) S1
  | none => .no := (rfl)
section
variable {X : Cx} {k : Nat} {f C : Addr} {fd : FuncData} {ps : List Str} {sp : Sp} {E : XK} {x m : Str} {p pos apos : Pos} {e o : Expr} {es : List Expr} {ta : TE} {t : TA}
theorem pe_methG {pl : Sem Bool} (he : PE X o ta) (c : Cls X.K C) (hm : Meth X.K C m f) (F : FnG X.prog X.w X.K X.mg X.base k f fd ps sp) (hr : RoomG k X.A) (hb : Binds X.K fd ps []) (ha : PA X (e :: es) t)
    (hst : starEach (e :: es) X.env = (false, eval e X.env) :: starEach es X.env := by rfl) (hpl : (backTo pos (starEach es X.env)).any (·.1) = false := by rfl)
    (ht : eval (.Call (.Attribute o m apos) (e :: es) [] pos) X.env = (do
      let ov ← eval o X.env
      standAt apos.atName
      let (f, first) ← holding [ov] (getMethod ov m pl)
      callWith pos f first (backTo pos (starEach (e :: es) X.env)) (backToKw pos (keywordEach [] X.env))) := by rfl) :
    PE X (.Call (.Attribute o m apos) (e :: es) [] pos) (tMeth C m sp [] E ta t) := by
  refine ⟨fun pins s σ H Q I h => ?_⟩
  refine PySem.W.methodCall_KW (pl := pl) (thn (he.run pins s σ H _ I h) fun u s1 ⟨x, H1, I1, rx, a, dx, fs, ex, ea, l, q⟩ => ?_) ht
  subst ex
  obtain rfl : u = Value.ref a := rx
  refine getmeth_ok I1 ea c hm l ?_
  refine PySem.W.callWith_K (first := [.ref a]) (h₀ := X.base) I.ok.mod.kin hm.kp (thn (ha.run pos pins s1 σ H1 _ I1 q) fun us s2 ⟨vs, H2, I2, r, q2⟩ => ⟨I2.kIn, ?_⟩) hst hpl
  have q2 : sp (.ref a :: (vs ++ [])) H2 Q E := q2
  rw [List.append_nil] at q2
  exact run_g (us := .ref a :: us) (vs := .ref a :: vs) F hr hb I2 (.cons rfl r) q2
theorem RoomG.make {A : Around} (r : RoomG (k + 1) A) (C : Addr) (us : List Value) (kw : List (Str × Value)) : RoomG k (A.under (.builtin "type.__call__" ⟨.ref C :: us, kw⟩)) := ⟨r.rm.make C us kw, r.gd⟩
theorem run_makeG {pins : List (Addr × Obj)} {σ : St} {H : Hp} {s : Shared} {Q : VK} {us : List Value} {vs : List V} (M : Mk X.K C f) (F : FnG X.prog X.w X.K X.mg X.base k f fd ps sp) (hr : RoomG (k + 1) X.A) (hb : Binds X.K fd ps [])
    (I : L2.Inv X pins σ H s) (r : Vals vs us)
    (h : ∀ x dx, H x = none → H dx = none → dx ≠ x → sp (.ref x :: vs) (upd (upd H dx (.own x)) x (.ins C dx [])) (fun v H2 => v = .non ∧ Q (.ref x) H2) E) :
    wpAny (model X.prog X.w) X.A (call (.ref C) us) (EP X pins σ Q) X.xe s := by
  have hq := h (s.heap.objs.size + 1) s.heap.objs.size (I.hok.fresh (Nat.le_succ _)) (I.hok.fresh (Nat.le_refl _)) (Nat.ne_of_lt (Nat.lt_succ_self _))
  have I2 := L2.Inv.made (C := C) I
  have r2 : Vals (V.ref (s.heap.objs.size + 1) :: vs) (Value.ref (s.heap.objs.size + 1) :: us) := .cons rfl r
  have hl : (Value.ref (s.heap.objs.size + 1) :: us).length = ps.length := by
    have e := r2.length
    rw [F.len _ _ _ _ hq] at e
    exact e.symm
  have hb' := hb _ (Value.ref (s.heap.objs.size + 1) :: us) I2.kIn (by rw [List.append_nil]; exact hl)
  rw [List.append_nil] at hb'
  refine wpAny_call (make_map (f := f) I.kIn M.makes M.init (beq_iff_eq.mp M.fn) (codeAny_mono (F.run _ X.stack _ _ ⟨Value.ref (s.heap.objs.size + 1) :: us, []⟩ (Value.ref (s.heap.objs.size + 1) :: us) _ _ E (hr.make C us [])
    (I2.env0.make C us []) hb' r2 hq) fun r s' hq' => ?_))
  match r, hq' with
  | .ok (.ret u), hq' =>
    obtain ⟨v, H', I3, rv, ev, q3⟩ := I2.after hq'
    subst ev
    exact ⟨rv, ⟨V.ref (s.heap.objs.size + 1), H', I3, rfl, q3⟩⟩
theorem pe_makeG (M : Mk X.K C f) (F : FnG X.prog X.w X.K X.mg X.base k f fd ps sp) (hr : RoomG (k + 1) X.A) (hg : Gl X x) (hm : X.mg x = some (.ref C)) (hb : Binds X.K fd ps [])
    (ha : PA X (e :: es) t) (hdb : (x == ("__debug__" : Str)) = false := by decide) (he : starEach (e :: es) X.env = (false, eval e X.env) :: starEach es X.env := by rfl) (hpl : (backTo pos (starEach es X.env)).any (·.1) = false := by rfl) :
    PE X (.Call (.Name x p) (e :: es) [] pos) (tMake C sp [] E t) := by
  refine ⟨fun pins s σ H Q I h => ?_⟩
  refine wpAny_Call_Name_kw (ld_glob I hg hm ?_ hdb)
  refine PySem.W.callWith_K (h₀ := X.base) I.ok.mod.kin M.kp (thn (ha.run pos pins s σ H _ I h) fun us s1 ⟨vs, H1, I1, r, q⟩ => ⟨I1.kIn, ?_⟩) he hpl
  refine run_makeG (E := E) M F hr hb I1 r fun x dx h1 h2 h3 => ?_
  have := q x dx h1 h2 h3
  rw [List.append_nil] at this
  exact this
end

/-! ### methods -/
noncomputable def obD (c m : Str) : D → Bool
  | .obj c' fs => decide (c' = c) && (fs.lookup m).isNone
  | _ => false
noncomputable def obO (c m : Str) (o : Ov) (S : SS) : Bool := match o with
  | .d x => obD c m x
  | .j i => match S.at i with
    | some (.d x) => obD c m x
    | some (.ob c' ns _) => decide (c' = c) && !ns.contains m
    | _ => false
noncomputable def mMth (c m : Str) (g : List M → CR) (fe : FE) (fas : FA) : FM := fun S => (fe S).bind fun o S1 => if obO c m o S1 = true then (fas S1).bind fun os S2 => callR g (o :: os) S2 else .no
/-- a method of a class of the text -/
structure FnM (P : Program) (w : World) (K : PySem.W.Frag) (mg : Str → Option Value) (base : Heap) (n : Nat) (c m : Str) (np : Nat) (g : List M → CR) : Prop where
  ex : ∃ (C f : Addr) (fd : FuncData) (ps : List Str), mg c = some (.ref C) ∧ Cls K C ∧ Meth K C m f ∧ ps.length = np ∧ FnG P w K mg base n f fd ps (spD (kg0 K mg) np g) ∧ Binds K fd ps []
theorem lookup_none_zip {α β : Type} {m : Str} : ∀ {ns : List Str} {ds : List α} {vs : List β}, ds.length = vs.length → (ns.zip ds).lookup m = none → (ns.zip vs).lookup m = none
  | [], _, _, _, _ => rfl
  | n :: ns, [], [], _, _ => rfl
  | n :: ns, d :: ds, v :: vs, hl, h => by
    rw [List.zip_cons_cons, List.lookup_cons] at h ⊢
    cases e : m == n with
    | true => rw [e] at h; cases h
    | false =>
      rw [e] at h
      exact lookup_none_zip (by simpa using hl) h
theorem lookup_none_of {α : Type} {m : Str} : ∀ {ns : List Str} {vs : List α}, ns.contains m = false → (ns.zip vs).lookup m = none
  | [], _, _ => rfl
  | n :: ns, [], _ => rfl
  | n :: ns, v :: vs, h => by
    rw [List.contains_cons, Bool.or_eq_false_iff] at h
    rw [List.zip_cons_cons, List.lookup_cons, h.1]
    exact lookup_none_of h.2
theorem obO_ok {K : KG} {H F : Hp} {O : OW} {σ : St} {S : SS} {c m : Str} {o : Ov} {v : V} (r : Rp K H F O σ S) (ro : RepOv K F σ v o) (h : obO c m o S = true) : ∃ a C dx fs, v = .ref a ∧ K.cl c = some C ∧ H a = some (.ins C dx fs) ∧ fs.lookup m = none := by
  have dd : ∀ {x : D} {v : V}, RepD K F v x → obD c m x = true → ∃ a C dx fs, v = .ref a ∧ K.cl c = some C ∧ H a = some (.ins C dx fs) ∧ fs.lookup m = none := fun {x v} rx hx => by
    cases x with
    | obj c' fs =>
      have hx : (decide (c' = c) && (fs.lookup m).isNone) = true := hx
      rw [Bool.and_eq_true] at hx
      obtain ⟨h1, h2⟩ := hx
      have e := of_decide_eq_true h1
      cases rx with
      | obj hc hF hl rs =>
        subst e
        exact ⟨_, _, _, _, rfl, hc, r.bs.fh _ _ hF, lookup_none_zip rs.len.symm (Option.isNone_iff_eq_none.mp h2)⟩
    | _ => cases hx
  cases o with
  | d x => exact dd ro h
  | j i =>
    have z : σ[i]? = some (some v) := ro
    have h : (match S.at i with
      | some (.d x) => obD c m x
      | some (.ob c' ns _) => decide (c' = c) && !ns.contains m
      | _ => false) = true := h
    cases em : S.at i with
    | none => rw [em] at h; cases h
    | some mm =>
      rw [em] at h
      obtain ⟨w, hw, rm⟩ := r.sl i mm em
      rw [hw] at z
      cases z
      cases mm with
      | d x => exact dd rm h
      | ob c' ns ms =>
        have h : (decide (c' = c) && !ns.contains m) = true := h
        rw [Bool.and_eq_true] at h
        obtain ⟨h1, h2⟩ := h
        have e := of_decide_eq_true h1
        obtain ⟨a, C, dx, vs, ev, ho, hc, hh, hl, rs⟩ := rm
        subst e
        exact ⟨a, C, dx, _, ev, hc, hh, lookup_none_of (by simpa using h2)⟩
      | _ => cases h
theorem clsOf_ref {mg : Str → Option Value} {c : Str} {C : Addr} (h : mg c = some (.ref C)) : clsOf mg c = some C := by
  unfold clsOf
  rw [h]
section
variable {X : Cx} {n np : Nat} {c m x : Str} {g : List M → CR} {p pos apos : Pos} {e o : Expr} {es : List Expr} {fe : FE} {fas : FA}
theorem mth_rd {C : Addr} {σ : St} {H : Hp} {Q : VK} (hC : X.mg c = some (.ref C)) (hm : Many fas np) (h : rdM (kg X) (mMth c m g fe fas) σ H Q) : tMeth C m (spD (kg X) (np + 1) g) [] (fun _ _ _ => False) (rdE (kg X) fe) (rdA (kg X) fas) σ H Q := by
  obtain ⟨F, O, S, mm, S', r, hf, k⟩ := h
  obtain ⟨o, S1, h1, h2⟩ := R.bind_ok hf
  refine ⟨F, O, S, o, S1, r, h1, fun v H1 F1 O1 st1 r1 ro => ?_⟩
  split at h2
  · rename_i hob
    obtain ⟨a, C', dx, fs, rfl, hc, ha, hl⟩ := obO_ok r1 ro hob
    have : clsOf X.mg c = some C' := hc
    rw [clsOf_ref hC] at this
    cases this
    obtain ⟨os, S2, h3, h4⟩ := R.bind_ok h2
    refine ⟨a, dx, fs, rfl, ha, hl, F1, O1, S1, os, S2, r1, h3, fun vs H2 F2 O2 st2 r2 ros => ?_⟩
    show spD (kg X) (np + 1) g (.ref a :: (vs ++ [])) H2 Q _
    rw [List.append_nil]
    exact call_core r2 (.cons (ro.mono st2.ff) ros) (congrArg (· + 1) (hm _ _ _ h3)) h4 fun v H' F' O' st r' rm => k v H' F' O' ((st1.trans st2).trans st) r' rm
  · cases h2
theorem dm_mth (he : DE X fe o) (F : FnM X.prog X.w X.K X.mg X.base n c m (np + 1) g) (hr : RoomG n X.A) (ha : DA X fas (e :: es)) (hm : Many fas np)
    (hst : starEach (e :: es) X.env = (false, eval e X.env) :: starEach es X.env := by rfl) (hpl : (backTo pos (starEach es X.env)).any (·.1) = false := by rfl) {pl : Sem Bool}
    (ht : eval (.Call (.Attribute o m apos) (e :: es) [] pos) X.env = (do
      let ov ← eval o X.env
      standAt apos.atName
      let (f, first) ← holding [ov] (getMethod ov m pl)
      callWith pos f first (backTo pos (starEach (e :: es) X.env)) (backToKw pos (keywordEach [] X.env))) := by rfl) (hcm : X.calm = true := by rfl) : DM X (mMth c m g fe fas) (.Call (.Attribute o m apos) (e :: es) [] pos) := by
  obtain ⟨C, f, fd, ps, hC, hc, hmt, hps, hF, hb⟩ := F.ex
  rw [← kg_calm hcm] at hF
  exact PE.imp (pe_methG (E := fun _ _ _ => False) he hc hmt hF hr hb ha hst hpl ht) fun σ H Q h => mth_rd hC hm h
/-! ### makers -/
/-- a class of the text and its __init__ -/
structure FnI (P : Program) (w : World) (K : PySem.W.Frag) (mg : Str → Option Value) (base : Heap) (n : Nat) (c : Str) (np : Nat) (g : List M → CR) : Prop where
  ex : (∀ ms, g ms = .no) ∨ ∃ (k : Nat) (C f : Addr) (fd : FuncData) (ps : List Str), k + 1 = n ∧ mg c = some (.ref C) ∧ Mk K C f ∧ ps.length = np ∧ FnG P w K mg base k f fd ps (spD (kg0 K mg) np g) ∧ Binds K fd ps []
/-- a new object stands behind the slots, and is lent to __init__ -/
noncomputable def endMk (n : Nat) (m : M) (S : SS) : R M := match m with
  | .d .non => (match S.at n with
    | some m => .ok m (S.take n)
    | none => .no)
  | _ => .no
noncomputable def mMake (c : Str) (g : List M → CR) (fas : FA) : FM := fun S => (fas S).bind fun os S1 => (callR g (.j S1.length :: os) (S1 ++ [some (.ob c [] [])])).bind fun m S2 => endMk S1.length m S2
/-- what stood at the last slot is the result -/
noncomputable def lastO (n : Nat) (O : OW) : OW := fun a => match O a with
  | some (.s i, p) => if i = n then some (.r, p) else some (.s i, p)
  | _ => none
theorem Rp.cutLast {K : KG} {H F : Hp} {O : OW} {σ : St} {S : SS} {v : V} {m : M} (r : Rp K H F O (σ ++ [some v]) S) (e : S.at σ.length = some m) :
    Stp H F O H F (lastO σ.length O) ∧ Rp K H F (lastO σ.length O) σ (S.take σ.length) ∧ RepM K H F (lastO σ.length O) (.r, []) v m := by
  have sm : ∀ a q, lastO σ.length O a = some q → ∃ q', O a = some q' := fun a q h => by
    unfold lastO at h
    cases e : O a with
    | none => rw [e] at h; cases h
    | some z => exact ⟨z, rfl⟩
  have hl := r.len
  rw [List.length_append, List.length_singleton] at hl
  refine ⟨⟨Le.refl _, fun _ _ h _ => h, fun a q h => .inl (sm a q h), fun _ _ h => .inl h, fun _ o h => ⟨o, h⟩⟩, ⟨⟨r.bs.fh, fun a q h => ?_⟩, by rw [List.length_take, hl]; exact Nat.min_eq_left (Nat.le_succ _), fun i mm hi => ?_⟩, ?_⟩
  · obtain ⟨q', h'⟩ := sm a q h
    exact r.bs.fo a q' h'
  · unfold SS.at at hi
    rw [List.getElem?_take] at hi
    split at hi
    · rename_i hlt
      obtain ⟨w, hw, rm⟩ := r.sl i mm hi
      rw [List.getElem?_append_left hlt] at hw
      refine ⟨w, hw, rm.stay (Le.refl _) fun a o p e1 e2 => ⟨e2, ?_⟩⟩
      unfold lastO
      rw [e1]
      dsimp only
      rw [if_neg (Nat.ne_of_lt hlt)]
    · cases hi
  · obtain ⟨w, hw, rm⟩ := r.sl _ m e
    rw [List.getElem?_append_right (Nat.le_refl _), Nat.sub_self] at hw
    cases hw
    refine RepM.move (Le.refl _) (fun a o p e1 e2 => ⟨e2, ?_⟩) rm
    unfold lastO
    rw [e1]
    dsimp only
    rw [if_pos rfl]
theorem make_rd {C : Addr} {σ : St} {H : Hp} {Q : VK} (hC : X.mg c = some (.ref C)) (hm : Many fas np) (h : rdM (kg X) (mMake c g fas) σ H Q) : tMake C (spD (kg X) (np + 1) g) [] (fun _ _ _ => False) (rdA (kg X) fas) σ H Q := by
  obtain ⟨F, O, S, mm, S', r, hf, k⟩ := h
  obtain ⟨os, S1, h1, h2⟩ := R.bind_ok hf
  refine ⟨F, O, S, os, S1, r, h1, fun vs H1 F1 O1 st1 r1 ro a dx ha hdx ne => ?_⟩
  rw [List.append_nil]
  obtain ⟨m0, S2, ec, h2⟩ := R.bind_ok h2
  · have hm0 : m0 = .d .non := by
      cases m0 with
      | d y => cases y <;> first | rfl | cases h2
      | _ => cases h2
    subst hm0
    have h2 : (match S2.at S1.length with
      | some m => R.ok m (S2.take S1.length)
      | none => .no) = .ok mm S' := h2
    cases em : S2.at S1.length with
    | none => rw [em] at h2; cases h2
    | some m =>
      rw [em] at h2
      cases h2
      have hlen := r1.len
      obtain ⟨H2, hH2⟩ : ∃ H2, H2 = upd (upd H1 dx (.own a)) a (.ins C dx []) := ⟨_, rfl⟩
      obtain ⟨O2, hO2⟩ : ∃ O2, O2 = ownR O1 a (.s S1.length, []) := ⟨_, rfl⟩
      have fa := r1.bs.free ha
      have fd := r1.bs.free hdx
      have h2a : H2 a = some (.ins C dx []) := by rw [hH2]; exact upd_same
      have h2k : ∀ b u, H1 b = some u → H2 b = some u := fun b u e => by
        rw [hH2, upd_ne (fun z => by rw [z, ha] at e; cases e), upd_ne (fun z => by rw [z, hdx] at e; cases e)]
        exact e
      have o2k : ∀ b q, O1 b = some q → O2 b = some q := fun b q e => by
        rw [hO2]
        unfold ownR
        rw [if_neg (fun z => by rw [z, fa.2] at e; cases e)]
        exact e
      have st2 : Stp H1 F1 O1 H2 F1 O2 := by
        refine ⟨Le.refl _, fun b u e _ => h2k b u e, fun b q e => ?_, fun _ _ e => .inl e, fun b u e => ⟨u, h2k b u e⟩⟩
        rw [hO2] at e
        unfold ownR at e
        split at e
        · rename_i z
          exact .inr (z ▸ ha)
        · exact .inl ⟨q, e⟩
      have r2 : Rp (kg X) H2 F1 O2 (σ ++ [some (.ref a)]) (S1 ++ [some (.ob c [] [])]) := by
        refine ⟨⟨fun b u e => h2k b u (r1.bs.fh b u e), fun b q e => ?_⟩, by rw [List.length_append, List.length_append, hlen]; rfl, fun i mm hi => ?_⟩
        · rw [hO2] at e
          unfold ownR at e
          split at e
          · rename_i z
            subst z
            exact ⟨fa.1, _, h2a⟩
          · obtain ⟨z1, u, z2⟩ := r1.bs.fo b q e
            exact ⟨z1, u, h2k b u z2⟩
        · unfold SS.at at hi
          by_cases hlt : i < S1.length
          · rw [List.getElem?_append_left hlt] at hi
            obtain ⟨w, hw, rm⟩ := r1.sl i mm hi
            refine ⟨w, by rw [List.getElem?_append_left (by rw [← hlen]; exact hlt)]; exact hw, rm.stay (Le.refl _) fun b u p e1 e2 => ⟨h2k b u e2, o2k b _ e1⟩⟩
          · have : i = S1.length := by
              cases e : (S1 ++ [some (M.ob c [] [])])[i]? with
              | none => rw [e] at hi; cases hi
              | some z =>
                have := (List.getElem?_eq_some_iff.mp e).1
                rw [List.length_append, List.length_singleton] at this
                omega
            subst this
            rw [List.getElem?_append_right (Nat.le_refl _), Nat.sub_self] at hi
            cases hi
            refine ⟨.ref a, by rw [hlen, List.getElem?_append_right (Nat.le_refl _), Nat.sub_self]; rfl, a, C, dx, [], rfl, ?_, clsOf_ref hC, h2a, rfl, rfl⟩
            rw [hO2]
            unfold ownR
            rw [if_pos rfl]
      have ro2 : RepOvs (kg X) F1 (σ ++ [some (.ref a)]) vs os := by
        have : ∀ {vs : List V} {os : List Ov}, RepOvs (kg X) F1 σ vs os → RepOvs (kg X) F1 (σ ++ [some (.ref a)]) vs os := fun {vs os} h => by
          induction h with
          | nil => exact .nil
          | cons h _ ih =>
            rename_i v vs o os _
            refine .cons ?_ ih
            cases o with
            | d x => exact h
            | j i =>
              have z : σ[i]? = some (some v) := h
              show (σ ++ [some (.ref a)])[i]? = some (some v)
              rw [List.getElem?_append_left (List.getElem?_eq_some_iff.mp z).1]
              exact z
        exact this ro
      rw [← hH2]
      refine call_core (O1 := O2) r2 (.cons (o := .j S1.length) (show (σ ++ [some (V.ref a)])[S1.length]? = some (some (V.ref a)) by rw [hlen, List.getElem?_append_right (Nat.le_refl _), Nat.sub_self]; rfl) ro2) (congrArg (· + 1) (hm _ _ _ h1)) ec fun v H' F' O' st r' rm => ?_
      have rv : v = .non := by
        have rm : RepD (kg X) F' v .non := rm
        cases rm
        rfl
      rw [hlen] at em
      obtain ⟨st3, r3, rm3⟩ := r'.cutLast em
      refine ⟨rv, k _ _ _ _ ((st1.trans st2).trans (st.trans st3)) (by rw [hlen]; exact r3) rm3⟩
theorem make_no (hz : ∀ ms, g ms = .no) : DM X (mMake c g fas) e := by
  refine ⟨fun pins s σ H Q I h => ?_⟩
  obtain ⟨F, O, S, m, S', r, hf, k⟩ := h
  obtain ⟨os, S1, h1, h2⟩ := R.bind_ok hf
  obtain ⟨m0, S2, h3, h4⟩ := R.bind_ok h2
  unfold callR at h3
  split at h3
  · rw [hz] at h3
    cases h3
  · cases h3
theorem dm_make (F : FnI X.prog X.w X.K X.mg X.base n c (np + 1) g) (hr : RoomG n X.A) (hg : Gl X c) (ha : DA X fas (e :: es)) (hm : Many fas np) (hdb : (c == ("__debug__" : Str)) = false := by decide)
    (he : starEach (e :: es) X.env = (false, eval e X.env) :: starEach es X.env := by rfl) (hpl : (backTo pos (starEach es X.env)).any (·.1) = false := by rfl) (hcm : X.calm = true := by rfl) : DM X (mMake c g fas) (.Call (.Name c p) (e :: es) [] pos) := by
  rcases F.ex with hz | ⟨k, C, f, fd, ps, hk, hC, hM, hps, hF, hb⟩
  · exact make_no hz
  subst hk
  rw [← kg_calm hcm] at hF
  exact PE.imp (pe_makeG (E := fun _ _ _ => False) hM hF hr hg hC hb ha hdb he hpl) fun σ H Q h => make_rd hC hm h
end
theorem fnM_zero {P : Program} {w : World} {K : PySem.W.Frag} {mg : Str → Option Value} {base : Heap} {n : Nat} {c x qual : Str} {st : Stmt} {C f : Addr} {fd : FuncData} {ps : List Str} (F : Fun K x qual st f fd) (m : mg c = some (.ref C)) (hc : Cls K C) (hm : Meth K C x f) (b : Binds K fd ps []) :
    FnM P w K mg base n c x ps.length (fun _ => .no) := by
  refine ⟨C, f, fd, ps, m, hc, hm, rfl, ⟨fun vs H Q E ⟨_, _, _, _, _, h, _⟩ => h, fun A outer s H args us vs Q E _ _ _ _ h => ?_⟩, b⟩
  obtain ⟨_, _, _, _, _, _, _, _, _, h, _⟩ := h
  cases h
/-- __init__ as a def by itself -/
structure FnN (P : Program) (w : World) (K : PySem.W.Frag) (mg : Str → Option Value) (base : Heap) (n : Nat) (c : Str) (np : Nat) (g : List M → CR) : Prop where
  ex : ∃ (C f : Addr) (fd : FuncData) (ps : List Str), mg c = some (.ref C) ∧ Mk K C f ∧ ps.length = np ∧ FnG P w K mg base n f fd ps (spD (kg0 K mg) np g) ∧ Binds K fd ps []
theorem fnN_zero {P : Program} {w : World} {K : PySem.W.Frag} {mg : Str → Option Value} {base : Heap} {n : Nat} {c x qual : Str} {st : Stmt} {C f : Addr} {fd : FuncData} {ps : List Str} (F : Fun K x qual st f fd) (m : mg c = some (.ref C)) (hm : Mk K C f) (b : Binds K fd ps []) :
    FnN P w K mg base n c ps.length (fun _ => .no) := by
  refine ⟨C, f, fd, ps, m, hm, rfl, ⟨fun vs H Q E ⟨_, _, _, _, _, h, _⟩ => h, fun A outer s H args us vs Q E _ _ _ _ h => ?_⟩, b⟩
  obtain ⟨_, _, _, _, _, _, _, _, _, h, _⟩ := h
  cases h
theorem FnN.maker {P : Program} {w : World} {K : PySem.W.Frag} {mg : Str → Option Value} {base : Heap} {n np : Nat} {c : Str} {g : List M → CR} (h : FnN P w K mg base n c np g) : FnI P w K mg base (n + 1) c np g :=
  let ⟨C, f, fd, ps, h1, h2, h3, h4, h5⟩ := h.ex
  ⟨.inr ⟨n, C, f, fd, ps, rfl, h1, h2, h3, h4, h5⟩⟩
theorem clF_of {K : PySem.W.Frag} {mg : Str → Option Value} {c f : Str} {C : Addr} (h : mg c = some (.ref C)) (hc : Cls K C) (hn : NoAttr K C f) : ClF (kg0 K mg) c f := fun C' h' => by
  have : clsOf mg c = some C' := h'
  rw [clsOf_ref h] at this
  cases this
  exact ⟨hc, hn⟩
theorem fnI_zero {P : Program} {w : World} {K : PySem.W.Frag} {mg : Str → Option Value} {base : Heap} {n : Nat} {c : Str} {np : Nat} : FnI P w K mg base n c np (fun _ => .no) := ⟨.inl fun _ => rfl⟩

/-! ### int(text) -/
section
variable {X : Cx}
/-! ### f-strings -/
variable {e : Expr} {pos : Pos}
/-! ### replace, split behind a docstring -/
theorem PET.imp {t t' : TE} (h : PET X e t) (hm : ∀ σ H Q, t' σ H Q → t σ H Q) : PET X e t' := fun pins s σ H Q h0 I q => h pins s σ H Q h0 I (hm σ H Q q)
noncomputable abbrev DMT (X : Cx) (f : FM) (e : Expr) : Prop := PET X e (rdM (kg X) f)
theorem DMT.of {f : FM} (h : DM X f e) : DMT X f e := CwR.PET.of h
end
/-! ### simp lemmas -/
@[simp] theorem callR_ap (g : List M → CR) (os : List Ov) (S1 : SS) : callR g os S1 = match lend os S1 with
  | some (ms, S2) => (g ms).toR fun fin => back os ms fin S2
  | none => .no := (rfl)
@[simp] theorem mMth_ap (c m : Str) (g : List M → CR) (fe : FE) (fas : FA) (S : SS) : mMth c m g fe fas S = (fe S).bind fun o S1 => if obO c m o S1 = true then (fas S1).bind fun os S2 => callR g (o :: os) S2 else .no := (rfl)
@[simp] theorem obO_d (c m : Str) (x : D) (S : SS) : obO c m (.d x) S = obD c m x := (rfl)
@[simp] theorem obO_j (c m : Str) (i : Nat) (S : SS) : obO c m (.j i) S = (match S.at i with
    | some (.d x) => obD c m x
    | some (.ob c' ns _) => decide (c' = c) && !ns.contains m
    | _ => false) := (rfl)
@[simp] theorem obD_ob (c m c' : Str) (fs : List (Str × D)) : obD c m (.obj c' fs) = (decide (c' = c) && (fs.lookup m).isNone) := (rfl)
@[simp] theorem mMake_ap (c : Str) (g : List M → CR) (fas : FA) (S : SS) : mMake c g fas S = (fas S).bind fun os S1 => (callR g (.j S1.length :: os) (S1 ++ [some (.ob c [] [])])).bind fun m S2 => endMk S1.length m S2 := (rfl)
@[simp] theorem endMk_ap (n : Nat) (S : SS) : endMk n (.d .non) S = (match S.at n with
    | some m => .ok m (S.take n)
    | none => .no) := (rfl)
/-! ### a set of texts as a thing -/
theorem SetX.at_ {w : World} {h h' : Heap} {a : Addr} {xs : List Str} (R : SetX w h a xs) (k : ∀ o, h.get? a = some o → h'.get? a = some o) : SetX w h' a xs :=
  let ⟨o, es, ep, t, ⟨ho, hx, hd⟩, r⟩ := R
  ⟨o, es, ep, t, ⟨k o ho, hx, hd⟩, r⟩
section
variable {X : Cx}
end
section
variable {X : Cx} {p pos : Pos}
end

noncomputable def asKey : D → Option Key
  | .int i => some (.inl i)
  | .str x => some (.inr x)
  | _ => none
noncomputable def dkGet (kvs : List (Key × D)) (k : Key) : Option D := (kvs.find? fun kv => decide (kv.1 = k)).map (·.2)
noncomputable def dkPut (kvs : List (Key × D)) (k : Key) (v : D) : List (Key × D) :=
  if (kvs.any fun kv => decide (kv.1 = k)) = true then kvs.map (fun kv => if kv.1 = k then (kv.1, v) else kv) else kvs ++ [(k, v)]
theorem View.dict {K : KG} {H F : Hp} {v : V} {kd : List (Key × D)} (l : Le F H) (h : View K H F v (.dk kd)) : ∃ (a : Addr) (ks : List Key) (vs : List V) (ds : List D), v = .ref a ∧ Rd H a (.dK (ks.zip vs)) ∧ ks.length = vs.length ∧ RepDs K F vs ds ∧ kd = ks.zip ds := by
  generalize hd : D.dk kd = d at h
  cases h with
  | fz h =>
    subst hd
    generalize hd : D.dk kd = d at h
    cases h with
    | dk h e r => cases hd; exact ⟨_, _, _, _, rfl, l.rd h, e, r, rfl⟩
    | _ => cases hd
  | dk h e r => cases hd; exact ⟨_, _, _, _, rfl, .inl h, e, r, rfl⟩
  | _ => cases hd
theorem asKey_view {K : KG} {H F : Hp} {v : V} {d : D} {k : Key} (h : View K H F v d) (e : asKey d = some k) : v = kV k := by
  cases d with
  | int i => cases e; exact h.int
  | str i => cases e; exact h.str
  | _ => cases e
theorem zip_get {K : KG} {F : Hp} {k : Key} : ∀ {ks : List Key} {vs : List V} {ds : List D}, RepDs K F vs ds → (valV (ks.zip vs) k = none ∧ dkGet (ks.zip ds) k = none) ∨ ∃ v d, valV (ks.zip vs) k = some v ∧ dkGet (ks.zip ds) k = some d ∧ RepD K F v d
  | [], _, _, _ => .inl ⟨rfl, rfl⟩
  | q :: ks, _, _, .nil => .inl ⟨rfl, rfl⟩
  | q :: ks, v :: vs, d :: ds, .cons h r => by
    rw [List.zip_cons_cons, List.zip_cons_cons]
    by_cases e : q = k
    · exact .inr ⟨v, d, valV_pos (p := (q, v)) e, by simp [dkGet, List.find?_cons, e], h⟩
    · rw [valV_neg (p := (q, v)) e, show dkGet ((q, d) :: ks.zip ds) k = dkGet (ks.zip ds) k by simp [dkGet, List.find?_cons, e]]
      exact zip_get r
theorem zip_put {K : KG} {F : Hp} {k : Key} {v : V} {d : D} (h : RepD K F v d) {ks : List Key} {vs : List V} {ds : List D} (hl : ks.length = vs.length) (r : RepDs K F vs ds) :
    ∃ (ks' : List Key) (vs' : List V) (ds' : List D), putK (ks.zip vs) k v = ks'.zip vs' ∧ dkPut (ks.zip ds) k d = ks'.zip ds' ∧ ks'.length = vs'.length ∧ RepDs K F vs' ds' := by
  have any : ∀ {ks : List Key} {vs : List V} {ds : List D}, RepDs K F vs ds → ((ks.zip vs).any fun kv => decide (kv.1 = k)) = ((ks.zip ds).any fun kv => decide (kv.1 = k)) := fun {ks vs ds} r => by
    induction ks generalizing vs ds with
    | nil => rfl
    | cons q ks ih =>
      cases r with
      | nil => rfl
      | cons _ r => rw [List.zip_cons_cons, List.zip_cons_cons, List.any_cons, List.any_cons, ih r]
  unfold putK dkPut
  rw [any (ks := ks) r]
  by_cases c : ((ks.zip ds).any fun kv => decide (kv.1 = k)) = true
  · rw [if_pos c, if_pos c]
    have mp : ∀ {ks : List Key} {vs : List V} {ds : List D}, ks.length = vs.length → RepDs K F vs ds → ∃ vs' ds', (ks.zip vs).map (fun kv => if kv.1 = k then (kv.1, v) else kv) = ks.zip vs' ∧ (ks.zip ds).map (fun kv => if kv.1 = k then (kv.1, d) else kv) = ks.zip ds' ∧ ks.length = vs'.length ∧ RepDs K F vs' ds' := fun {ks vs ds} hl r => by
      induction ks generalizing vs ds with
      | nil => exact ⟨[], [], rfl, rfl, rfl, .nil⟩
      | cons q ks ih =>
        cases r with
        | nil => simp at hl
        | cons h0 r =>
          rename_i v0 vs d0 ds
          obtain ⟨vs', ds', h1, h2, h3, h4⟩ := ih (by simpa using hl) r
          by_cases e : q = k
          · exact ⟨v :: vs', d :: ds', by rw [List.zip_cons_cons, List.map_cons, List.zip_cons_cons, h1]; simp [e], by rw [List.zip_cons_cons, List.map_cons, List.zip_cons_cons, h2]; simp [e], by simp [h3], .cons h h4⟩
          · exact ⟨v0 :: vs', d0 :: ds', by rw [List.zip_cons_cons, List.map_cons, List.zip_cons_cons, h1]; simp [e], by rw [List.zip_cons_cons, List.map_cons, List.zip_cons_cons, h2]; simp [e], by simp [h3], .cons h0 h4⟩
    obtain ⟨vs', ds', h1, h2, h3, h4⟩ := mp hl r
    exact ⟨ks, vs', ds', h1, h2, h3, h4⟩
  · rw [if_neg c, if_neg c]
    exact ⟨ks ++ [k], vs ++ [v], ds ++ [d], (by rw [List.zip_append hl]; rfl), (by rw [List.zip_append (by rw [hl, r.len])]; rfl), by simp [hl], r.snoc h⟩
noncomputable def dninD : D → D → Option M
  | k, .dk kvs => (match asKey k with
    | some q => some (.d (.bl (!(dkGet kvs q).isSome)))
    | none => none)
  | _, _ => none
theorem dninD_ok {x y : D} {m : M} (h : dninD x y = some m) : ∃ kvs q, y = .dk kvs ∧ asKey x = some q ∧ m = .d (.bl (!(dkGet kvs q).isSome)) := by
  unfold dninD at h
  split at h
  · split at h
    · rename_i kvs q hq
      cases h
      exact ⟨_, q, rfl, hq, rfl⟩
    · cases h
  · cases h
section
variable {X : Cx} {e a b o i : Expr} {pos apos cpos : Pos}
theorem hu1 {k : Nat} (h : RoomG k X.A) : X.A.units + 1 < cLine := by have := h.rm.un; omega
theorem in_isSome {K : KG} {F : Hp} {k : Key} {ks : List Key} {vs : List V} {ds : List D} (r : RepDs K F vs ds) : (valV (ks.zip vs) k).isSome = (dkGet (ks.zip ds) k).isSome := by
  rcases zip_get (ks := ks) (k := k) r with ⟨h1, h2⟩ | ⟨z, d', h1, h2, _⟩ <;> rw [h1, h2] <;> rfl
theorem bl_tB {f : FM} {σ : St} {H : Hp} {Q : Bool → Hp → Prop} (h : rdT (kg X) (tM f) σ H Q) : rdM (kg X) f σ H (fun v H' => ∃ c, v = .bl c ∧ Q c H') := by
  obtain ⟨F, O, S, c, S', rp, hf, k⟩ := h
  obtain ⟨m, S1, h1, h2⟩ := R.bind_ok hf
  obtain ⟨em, eS⟩ := asB_ok h2
  subst em eS
  refine ⟨F, O, S, _, S', rp, h1, fun v H' F' O' st r' rm => ⟨c, ?_, k H' F' O' st r'⟩⟩
  cases (show RepD (kg X) F' v (.bl c) from rm)
  rfl
theorem dt_dnin {fd fk : FE} (hu : X.A.units + 1 < cLine) (hi : DE X fk i) (ho : DE X fd o) (hm : behindInMarks .NotIn o = false) : DT X (tM (mBin dninD fk fd)) (.Compare i [.NotIn] [o] pos) :=
  PT.imp (pt_cmp (pc_dnotin hu hi ho) hm) fun σ H Q h => bin_rd (r := fun y x H Q => ∃ a o, x = .ref a ∧ DGet H a y o ∧ Q (.bl (!o.isSome)) H) (fun H F v u x y m Q l vx vy e w => by
    obtain ⟨kvs, q, rfl, hq, rfl⟩ := dninD_ok e
    obtain ⟨a, ks, vs, ds, rfl, hr, hl, rr, rfl⟩ := vy.dict l
    exact ⟨a, _, rfl, .inl ⟨_, q, hr, asKey_view vx hq, rfl⟩, by rw [in_isSome rr]; exact w.bl⟩) (bl_tB h)
/-! ### d[k] = v -/
theorem Rp.mutD {K : KG} {H F : Hp} {O : OW} {σ : St} {S : SS} {j : Nat} {kd : List (Key × D)} (r : Rp K H F O σ S) (e : S.at j = some (.dk kd)) :
    ∃ (a : Addr) (ks : List Key) (vs : List V) (ds : List D), σ[j]? = some (some (.ref a)) ∧ H a = some (.dK (ks.zip vs)) ∧ ks.length = vs.length ∧ RepDs K F vs ds ∧ kd = ks.zip ds ∧ ∀ (ks' : List Key) (vs' : List V) (ds' : List D), ks'.length = vs'.length → RepDs K F vs' ds' → Stp H F O (upd H a (.dK (ks'.zip vs'))) F O ∧ Rp K (upd H a (.dK (ks'.zip vs'))) F O σ (S.set j (some (.dk (ks'.zip ds')))) := by
  obtain ⟨v, hv, a, ks, vs, ds, rfl, ho, hh, hl, rd, ek⟩ := r.sl j _ e
  have hF := (r.bs.fo a _ ho).1
  refine ⟨a, ks, vs, ds, hv, hh, hl, rd, ek, fun ks' vs' ds' hl' rd' => ⟨⟨Le.refl _, fun b u hb eb => ?_, fun b q hb => .inl ⟨q, hb⟩, fun b u hb => .inl hb, al_upd⟩, ⟨⟨fun b u hb => ?_, fun b q hb => ?_⟩, by rw [List.length_set]; exact r.len, fun i m hm => ?_⟩⟩⟩
  · rw [upd_ne (fun z => by subst z; rw [ho] at eb; cases eb)]; exact hb
  · rw [upd_ne (ne_of_none hb hF)]; exact r.bs.fh b u hb
  · obtain ⟨h1, h2⟩ := r.bs.fo b q hb
    obtain ⟨u, hu⟩ := h2
    exact ⟨h1, al_upd b u hu⟩
  · rcases SS.at_set hm with ⟨e1, e2⟩ | ⟨ne, hm⟩
    · subst e1
      cases e2
      exact ⟨_, hv, a, ks', vs', ds', rfl, ho, upd_same, hl', rd', rfl⟩
    · obtain ⟨w, hw, rw'⟩ := r.sl i m hm
      refine ⟨w, hw, rw'.stay (Le.refl _) fun b u _ e1 e2 => ⟨?_, e1⟩⟩
      rw [upd_ne (fun z => by subst z; rw [ho] at e1; cases e1; exact ne rfl)]
      exact e2
noncomputable def dputS (j : Nat) (k : Ov) (x : D) (S : SS) : R Fl := match (k.get S).bind asKey, S.at j with
  | some q, some (.dk kvs) => if kvs.length < line then .ok .nx (S.set j (some (.dk (dkPut kvs q x)))) else .no
  | _, _ => .no
theorem dputS_ok {j : Nat} {k : Ov} {x : D} {S S' : SS} {fl : Fl} (h : dputS j k x S = .ok fl S') : ∃ kd q kvs, k.get S = some kd ∧ asKey kd = some q ∧ S.at j = some (.dk kvs) ∧ kvs.length < line ∧ fl = .nx ∧ S' = S.set j (some (.dk (dkPut kvs q x))) := by
  unfold dputS at h
  split at h
  · rename_i q kvs e1 e2
    split at h
    · rename_i hl
      cases h
      cases ek : k.get S with
      | none => rw [ek] at e1; cases e1
      | some kd =>
        rw [ek] at e1
        exact ⟨kd, q, kvs, rfl, e1, e2, hl, rfl, rfl⟩
    · cases h
  · cases h
noncomputable def sDSet (j : Nat) (f fi : FE) : FS := fun S => (f S).bind fun o S => match force o S with
  | some (x, S1) => if (S1.at j).isSome = true then (fi S1).bind fun i S2 => dputS j i x S2 else .no
  | none => .no
theorem ds_dset {kp : Nat → Bool} {j : Nat} {spos : Pos} {f fi : FE} (hu : X.A.units + 1 < cLine) (he : DE X f e) (ho : PE X o (tVar j)) (hi : DE X fi i)
    (hs : swapsWith e (some (.Subscript o i pos)) spos.line X.env = pure false := by rfl) : DS X kp (sDSet j f fi) (.Assign [.Subscript o i pos] e spos) :=
  PS.imp (ps_dput hu ho hi he hs) fun D σ H ⟨F, O, S, fl, S', r, hf, k⟩ => by
    obtain ⟨oo, S1, h1, h2⟩ := R.bind_ok hf
    refine ⟨F, O, S, oo, S1, r, h1, fun v H1 F1 O1 st1 r1 ro => ?_⟩
    cases ef : force oo S1 with
    | none => rw [ef] at h2; cases h2
    | some z =>
      obtain ⟨x, S2⟩ := z
      rw [ef] at h2
      dsimp only at h2
      obtain ⟨F2, O2, st2, r2, rx⟩ := force_ok r1 ro ef
      split at h2
      · rename_i hsm
        obtain ⟨w, hw⟩ : ∃ w, σ[j]? = some (some w) := by
          cases em : S2.at j with
          | none => rw [em] at hsm; cases hsm
          | some m => obtain ⟨w, hw, _⟩ := r2.sl j m em; exact ⟨w, hw⟩
        obtain ⟨oi, S3, h5, h6⟩ := R.bind_ok h2
        refine ⟨w, hw, F2, O2, S2, oi, S3, r2, h5, fun iv H3 F3 O3 st3 r3 ri => ?_⟩
        obtain ⟨kd, q, kvs, e1, e2, e3, hl, rfl, rfl⟩ := dputS_ok h6
        obtain ⟨a, ks, vs, ds, hv2, hH, hkl, rv, rfl, chg⟩ := r3.mutD e3
        rw [hw] at hv2
        cases hv2
        obtain ⟨ks', vs', ds', p1, p2, p3, p4⟩ := zip_put (k := q) (rx.mono st3.ff) hkl rv
        obtain ⟨st4, r4⟩ := chg ks' vs' ds' p3 p4
        rw [← p1] at st4 r4
        rw [← p2] at r4
        have hl2 : (ks.zip vs).length < sizeLine := by
          rw [← line_eq]
          rw [List.length_zip] at hl ⊢
          rw [rv.len]
          exact hl
        exact ⟨a, _, rfl, .inl ⟨_, q, hH, asKey_view (r3.view ri e1) e2, hl2, rfl⟩, k σ _ _ _ (((st1.trans st2).trans st3).trans st4) r4 (Kp.refl _ _)⟩
      · cases h2
/-! ### x.pop(i) -/
end
/-! ### {k: v for ..} -/
/-! ### simp lemmas -/
@[simp] theorem dninD_ap (kvs : List (Key × D)) (k : D) : dninD k (.dk kvs) = (match asKey k with
    | some q => some (.d (.bl (!(dkGet kvs q).isSome)))
    | none => none) := (rfl)
@[simp] theorem asKey_s (x : Str) : asKey (.str x) = some (.inr x) := (rfl)
@[simp] theorem asKey_i (x : Int) : asKey (.int x) = some (.inl x) := (rfl)
@[simp] theorem sDSet_ap (j : Nat) (f fi : FE) (S : SS) : sDSet j f fi S = (f S).bind fun o S => match force o S with
  | some (x, S1) => if (S1.at j).isSome = true then (fi S1).bind fun i S2 => dputS j i x S2 else .no
  | none => .no := (rfl)
@[simp] theorem dputS_ap (j : Nat) (k : Ov) (x : D) (S : SS) : dputS j k x S = (match (k.get S).bind asKey, S.at j with
  | some q, some (.dk kvs) => if kvs.length < 16777216 then .ok .nx (S.set j (some (.dk (dkPut kvs q x)))) else .no
  | _, _ => .no) := (rfl)
section
variable {X : Cx} {kp : Nat → Bool} {e : Expr} {pos pt : Pos} {x y : Str} {px py ps : Pos} {kt : Nat}
end
/-! ### x.clear() -/
section
variable {X : Cx}
end
/-! ### name = {k: v for ..}, the name a local -/
section
variable {X : Cx} {kp : Nat → Bool}
end
/-! ### len(set(a tuple of texts)) -/
section
variable {X : Cx} {a : Expr} {p p2 q pos : Pos}
end
noncomputable def parO (i j : Nat) (O : OW) : OW := fun a => match O a with
  | some (.r, 0 :: p) => some (.s i, p)
  | some (.r, 1 :: p) => some (.s j, p)
  | some (.s k, p) => if k = i ∨ k = j then none else some (.s k, p)
  | _ => none
theorem parO_some {i j : Nat} {O : OW} {a : Addr} {q : Pl} (h : parO i j O a = some q) : ∃ q', O a = some q' := by
  unfold parO at h
  cases e : O a with
  | none => rw [e] at h; cases h
  | some q' => exact ⟨q', rfl⟩
section
variable {K : KG} {H F : Hp} {O : OW} {σ : St} {S : SS}
theorem Rp.par {i j : Nat} {v w : V} {m1 m2 : M} (r : Rp K H F O σ S) (hij : i ≠ j) (rs : RepMs K H F O (.r, []) 0 [v, w] [m1, m2]) :
    Stp H F O H F (parO i j O) ∧ Rp K H F (parO i j O) ((σ.set i (some v)).set j (some w)) ((S.set i (some m1)).set j (some m2)) := by
  obtain ⟨v', vs', e, h1, h2⟩ := rs
  cases e
  obtain ⟨w', ws', e, h3, _⟩ := h2
  cases e
  refine ⟨⟨Le.refl _, fun a o ha _ => ha, fun a q e => .inl (parO_some e), fun a o e => .inl e, fun a o e => ⟨o, e⟩⟩, ⟨⟨r.bs.fh, fun a q e => ?_⟩, by simp only [List.length_set]; exact r.len, fun k x h => ?_⟩⟩
  · obtain ⟨q', e'⟩ := parO_some e
    exact r.bs.fo a q' e'
  · have lt : ∀ {k : Nat} {x : M} {T : SS}, T.at k = some x → k < T.length := fun {k x T} h => by
      unfold SS.at at h
      by_cases z : k < T.length
      · exact z
      · rw [List.getElem?_eq_none (by simpa using z)] at h; cases h
    rcases SS.at_set h with ⟨e1, e2⟩ | ⟨ne, h⟩
    · subst e1
      cases e2
      have hl := lt h
      simp only [List.length_set, r.len] at hl
      exact ⟨w, by rw [List.getElem?_set_self (by simpa using hl)], RepM.rel (z := .r) (z' := .s j) (p0 := [1]) (p1 := []) (s := []) (Le.refl _) (fun a o s e3 e4 => ⟨e4, by unfold parO; rw [e3]; rfl⟩) h3⟩
    · rcases SS.at_set h with ⟨e1, e2⟩ | ⟨ne2, h⟩
      · subst e1
        cases e2
        have hl := lt h
        simp only [List.length_set, r.len] at hl
        exact ⟨v, by rw [List.getElem?_set_ne ne, List.getElem?_set_self hl], RepM.rel (z := .r) (z' := .s i) (p0 := [0]) (p1 := []) (s := []) (Le.refl _) (fun a o s e3 e4 => ⟨e4, by unfold parO; rw [e3]; rfl⟩) h1⟩
      · obtain ⟨u, hu, ru⟩ := r.sl k x h
        refine ⟨u, by rw [List.getElem?_set_ne ne, List.getElem?_set_ne ne2]; exact hu, ru.stay (Le.refl _) fun a o p e1 e2 => ⟨e2, ?_⟩⟩
        unfold parO
        rw [e1]
        dsimp only
        rw [if_neg]
        rintro (z | z)
        · exact ne2 z.symm
        · exact ne z.symm
end
section
variable {X : Cx} {kp : Nat → Bool} {a b : Expr} {pos : Pos}
end
namespace TZ
open PySem PySem.Spec
open PyProof.Rows hiding St

/-- a zip of two tuples at turn i: fresh, or one whose last pair is still out -/
structure At (h : Heap) (z TI TO a1 a2 l1 l2 : Addr) (i : Nat) : Prop where
  st : (IsZip h z TI TO .none ∧ ∃ u v, IsPair h TO u v) ∨ ∃ T f oT, IsZipHeld h z TI TO T f ∧ h.get? T = some oT
  ti : IsPair h TI (.ref a1) (.ref a2)
  p1 : h.IsTupleIter a1 l1 i
  p2 : h.IsTupleIter a2 l2 i
section
variable {prog : Program} {w : World} {A : Around} {E : Value → Shared → Prop} {s : Shared} {z TI TO a1 a2 l1 l2 : Addr} {i : Nat} {xs ys : Array Value}
theorem At.keep {h h' : Heap} {S : Addr} (t : At h z TI TO a1 a2 l1 l2 i) (nz : z ≠ S) (nI : TI ≠ S) (nO : TO ≠ S) (n1 : a1 ≠ S) (n2 : a2 ≠ S) (k : ∀ b o, b ≠ S → h.get? b = some o → h'.get? b = some o) (k2 : ∀ b o, h.get? b = some o → ∃ o', h'.get? b = some o') : At h' z TI TO a1 a2 l1 l2 i := by
  obtain ⟨st, ti, p1, p2⟩ := t
  refine ⟨?_, k _ _ nI ti, p1.at fun o e => k _ o n1 e, p2.at fun o e => k _ o n2 e⟩
  rcases st with ⟨q, u, v, q2⟩ | ⟨T, f, oT, q, q2⟩
  · exact .inl ⟨k _ _ nz q, u, v, k _ _ nO q2⟩
  · obtain ⟨o', e⟩ := k2 _ _ q2
    exact .inr ⟨T, f, o', k _ _ nz q, e⟩
theorem At.ty {h : Heap} (t : At h z TI TO a1 a2 l1 l2 i) : ∃ o, h.get? z = some o ∧ o.cls = .type "zip" := by
  rcases t.st with ⟨q, _⟩ | ⟨T, f, oT, q, _⟩
  · exact ⟨_, q, rfl⟩
  · exact ⟨_, q, rfl⟩
end
/-- the pairs made so far -/
structure Prs (xs ys : Array Value) (lo : Addr) (h : Heap) (as : List Addr) : Prop where
  up : as.Pairwise (· < ·)
  lo : ∀ a ∈ as, lo ≤ a
  at_ : ∀ (j : Nat) (a : Addr), as[j]? = some a → ∃ x y, xs[j]? = some x ∧ ys[j]? = some y ∧ IsPair h a x y
theorem Prs.keep {xs ys : Array Value} {lo : Addr} {h h' : Heap} {as : List Addr} (p : Prs xs ys lo h as) (k : ∀ b o, lo ≤ b → h.get? b = some o → h'.get? b = some o) : Prs xs ys lo h' as :=
  ⟨p.up, p.lo, fun j a e => let ⟨x, y, e1, e2, e3⟩ := p.at_ j a e; ⟨x, y, e1, e2, k _ _ (p.lo a (List.mem_of_getElem? e)) e3⟩⟩
section
variable {prog : Program} {w : World} {A : Around} {E : Value → Shared → Prop} {s : Shared} {z TI TO a1 a2 l1 l2 : Addr} {xs ys : Array Value} {R : Result → Shared → Prop} {n : Nat}
end
end TZ
/-! ### the rule -/
set_option maxHeartbeats 1000000
/-! ### its mirror -/
/-- what is wanted of an exception x with the slots S', the expression begun at these heaps -/
noncomputable def XWe (K : KG) (W : WX) (σ : St) (H F : Hp) (O : OW) (x : Exn) (S' : SS) : Prop :=
  ∀ cls d H' F' O', Stp H F O H' F' O' → Rp K H' F' O' σ S' → RepX K F' x cls d → W cls d σ H'
/-- an outcome: told, or an exception -/
noncomputable def Xo {α : Type} (K : KG) (W : WX) (σ : St) (H F : Hp) (O : OW) (r : R α) (k : α → SS → Prop) : Prop := match r with
  | .ok a S => k a S
  | .ex x S => XWe K W σ H F O x S
  | .no => False
section
variable {K : KG} {W : WX} {σ : St} {H F H1 F1 : Hp} {O O1 : OW} {α β : Type}
theorem Xo.bind {r : R α} {g : α → SS → R β} {k : β → SS → Prop} (h : Xo K W σ H F O (r.bind g) k) : Xo K W σ H F O r fun a S => Xo K W σ H F O (g a S) k := by
  cases r with
  | ok a S => exact h
  | ex x S => exact h
  | no => exact h
theorem Xo.mono {r : R α} {k k' : α → SS → Prop} (h : Xo K W σ H F O r k) (hk : ∀ a S, k a S → k' a S) : Xo K W σ H F O r k' := by
  cases r with
  | ok a S => exact hk _ _ h
  | ex x S => exact h
  | no => exact h
theorem Xo.from {r : R α} {k : α → SS → Prop} (st : Stp H F O H1 F1 O1) (h : Xo K W σ H F O r k) : Xo K W σ H1 F1 O1 r k := by
  cases r with
  | ok a S => exact h
  | ex x S => exact fun cls d H' F' O' st' => h cls d H' F' O' (st.trans st')
  | no => exact h
end
/-- no exception comes out of it -/
noncomputable def nx {α : Type} (f : SS → R α) : SS → R α := fun S => match f S with
  | .ok a S' => .ok a S'
  | _ => .no
section
variable {X : Cx} {W : WX} {e a b : Expr} {es : List Expr} {pos : Pos}
/-! ### what raises nothing -/
/-! ### expressions -/
/-! ### rows of arguments -/
/-! ### displays, subscripts, built-ins -/
end

noncomputable def XWs (K : KG) (kp : Nat → Bool) (W : WX) (σ : St) (H F : Hp) (O : OW) (x : Exn) (S' : SS) : Prop :=
  ∀ cls d σ' H' F' O', Stp H F O H' F' O' → Rp K H' F' O' σ' S' → Kp kp σ σ' → RepX K F' x cls d → W cls d σ' H'
noncomputable def Xs (K : KG) (kp : Nat → Bool) (W : WX) (D : Ends) (σ : St) (H F : Hp) (O : OW) (r : R Fl) : Prop := match r with
  | .ok fl S' => rdF K kp D σ H F O S' fl
  | .ex x S' => XWs K kp W σ H F O x S'
  | .no => False
section
variable {K : KG} {kp : Nat → Bool} {W : WX} {D : Ends} {σ σ1 : St} {H F H1 F1 : Hp} {O O1 : OW} {α : Type}
theorem XWs.from {x : Exn} {S' : SS} (h : XWs K kp W σ H F O x S') (st : Stp H F O H1 F1 O1) (k : Kp kp σ σ1) : XWs K kp W σ1 H1 F1 O1 x S' :=
  fun cls d σ' H' F' O' st' r' k' rx => h cls d σ' H' F' O' (st.trans st') r' (k.trans k') rx
theorem Xs.from {r : R Fl} (h : Xs K kp W D σ H F O r) (st : Stp H F O H1 F1 O1) (k : Kp kp σ σ1) : Xs K kp W D σ1 H1 F1 O1 r := by
  cases r with
  | ok fl S => exact rdF.from h st k
  | ex x S => exact XWs.from h st k
  | no => exact h
theorem XWs.we {x : Exn} {S' : SS} (h : XWs K kp W σ H F O x S') : XWe K W σ H F O x S' := fun cls d H' F' O' st r rx => h cls d σ H' F' O' st r (Kp.refl _ _) rx
/-- an expression, then the rest -/
theorem Xs.bind {r : R α} {g : α → SS → R Fl} (h : Xs K kp W D σ H F O (r.bind g)) : Xo K W σ H F O r fun a S => Xs K kp W D σ H F O (g a S) := by
  cases r with
  | ok a S => exact h
  | ex x S => exact XWs.we h
  | no => exact h
end
section
variable {X : Cx} {kp : Nat → Bool} {W : WX} {e a b : Expr} {pos : Pos} {st : Stmt} {rest sts : List Stmt} {f g : FS}
end

/-- what a def promises that may raise -/
noncomputable def spDx (K : KG) (np : Nat) (g : List M → CR) (vs : List V) (H : Hp) (E : XK) : Prop := ∃ F O ms x fin, vs.length = np ∧ ms.length = np ∧ Bs H F O ∧ (∀ p m, ms[p]? = some m → ∃ v, vs[p]? = some v ∧ RepM K H F O (.s p, []) v m) ∧ g ms = .ex x fin ∧
  ∀ cls d H' F' O', Stp H F O H' F' O' → Bs H' F' O' → RepX K F' x cls d → (∀ p m, fin[p]? = some (some m) → ∃ w, vs[p]? = some w ∧ RepM K H' F' O' (.s p, []) w m) → E cls d H'
noncomputable def spX (K : KG) (np : Nat) (g : List M → CR) : Sp := fun vs H Q E => spD K np g vs H Q E ∨ spDx K np g vs H E
theorem ovs_len {K : KG} {F : Hp} {σ : St} : ∀ {vs : List V} {os : List Ov}, RepOvs K F σ vs os → vs.length = os.length
  | _, _, .nil => rfl
  | _, _, .cons _ r => congrArg (· + 1) (ovs_len r)
/-- a def's promise, what it lets out lying as L2N has it -/
structure FnX (P : Program) (w : World) (K : PySem.W.Frag) (mg : Str → Option Value) (base : Heap) (k : Nat) (f : Addr) (fd : FuncData) (ps : List Str) (sp : Sp) : Prop where
  len : ∀ vs H Q E, sp vs H Q E → vs.length = ps.length
  run : ∀ (A : Around) (outer : List Env) (s : Shared) (H : Hp) (args : Args) (us : List Value) (vs : List V) (Q : VK) (E : XK), RoomG k A → Env0 P w K mg base A outer s H → BindsTo s fd args (ps.zip us) → Vals vs us → sp vs H Q E →
    codeAny (model P w) A (.call (.ref f) args) (L2.CR (L2N.CX P w) outer P w H s Q E) s
section
variable {X : Cx} {W : WX} {k : Nat} {f C : Addr} {fd : FuncData} {ps : List Str} {sp : Sp} {x m : Str} {p pos apos : Pos} {e o : Expr} {es : List Expr} {ta : TE} {t : TA}
end
/-! ### defs, methods, makers, by their names -/
structure FnDx (P : Program) (w : World) (K : PySem.W.Frag) (mg : Str → Option Value) (base : Heap) (n : Nat) (x : Str) (np : Nat) (g : List M → CR) : Prop where
  ex : ∃ (f : Addr) (fd : FuncData) (ps : List Str), ps.length = np ∧ FnX P w K mg base n f fd ps (spX (kg0 K mg) np g) ∧ mg x = some (.ref f) ∧ PySem.W.keepIn K (.ref f) = true ∧ Binds K fd ps []
structure FnMx (P : Program) (w : World) (K : PySem.W.Frag) (mg : Str → Option Value) (base : Heap) (n : Nat) (c m : Str) (np : Nat) (g : List M → CR) : Prop where
  ex : ∃ (C f : Addr) (fd : FuncData) (ps : List Str), mg c = some (.ref C) ∧ Cls K C ∧ Meth K C m f ∧ ps.length = np ∧ FnX P w K mg base n f fd ps (spX (kg0 K mg) np g) ∧ Binds K fd ps []
structure FnIx (P : Program) (w : World) (K : PySem.W.Frag) (mg : Str → Option Value) (base : Heap) (n : Nat) (c : Str) (np : Nat) (g : List M → CR) : Prop where
  ex : ∃ (C f : Addr), mg c = some (.ref C) ∧ Mk K C f ∧ ((∀ ms, g ms = .no) ∨ ∃ (k : Nat) (fd : FuncData) (ps : List Str), k + 1 = n ∧ ps.length = np ∧ FnX P w K mg base k f fd ps (spX (kg0 K mg) np g) ∧ Binds K fd ps [])
structure FnNx (P : Program) (w : World) (K : PySem.W.Frag) (mg : Str → Option Value) (base : Heap) (n : Nat) (c : Str) (np : Nat) (g : List M → CR) : Prop where
  ex : ∃ (C f : Addr) (fd : FuncData) (ps : List Str), mg c = some (.ref C) ∧ Mk K C f ∧ ps.length = np ∧ FnX P w K mg base n f fd ps (spX (kg0 K mg) np g) ∧ Binds K fd ps []
theorem FnNx.maker {P : Program} {w : World} {K : PySem.W.Frag} {mg : Str → Option Value} {base : Heap} {n np : Nat} {c : Str} {g : List M → CR} (h : FnNx P w K mg base n c np g) : FnIx P w K mg base (n + 1) c np g :=
  let ⟨C, f, fd, ps, h1, h2, h3, h4, h5⟩ := h.ex
  ⟨C, f, h1, h2, .inr ⟨n, fd, ps, rfl, h3, h4, h5⟩⟩
/-- the last slot is left -/
noncomputable def leftO (n : Nat) (O : OW) : OW := fun a => match O a with
  | some (.s i, p) => if i = n then none else some (.s i, p)
  | x => x
theorem Rp.leaveLast {K : KG} {H F : Hp} {O : OW} {σ : St} {S : SS} {v : V} (r : Rp K H F O (σ ++ [some v]) S) : Stp H F O H F (leftO σ.length O) ∧ Rp K H F (leftO σ.length O) σ (S.take σ.length) := by
  have sm : ∀ a q, leftO σ.length O a = some q → O a = some q := fun a q h => by
    unfold leftO at h
    split at h
    · rename_i i p e
      split at h
      · cases h
      · rw [e]; exact h
    · exact h
  have hl := r.len
  rw [List.length_append, List.length_singleton] at hl
  refine ⟨⟨Le.refl _, fun _ _ h _ => h, fun a q h => .inl ⟨q, sm a q h⟩, fun _ _ h => .inl h, fun _ o h => ⟨o, h⟩⟩, ⟨⟨r.bs.fh, fun a q h => r.bs.fo a q (sm a q h)⟩, by rw [List.length_take, hl]; exact Nat.min_eq_left (Nat.le_succ _), fun i mm hi => ?_⟩⟩
  unfold SS.at at hi
  rw [List.getElem?_take] at hi
  split at hi
  · rename_i hlt
    obtain ⟨w, hw, rm⟩ := r.sl i mm hi
    rw [List.getElem?_append_left hlt] at hw
    refine ⟨w, hw, rm.stay (Le.refl _) fun a o p e1 e2 => ⟨e2, ?_⟩⟩
    unfold leftO
    rw [e1]
    dsimp only
    rw [if_neg (Nat.ne_of_lt hlt)]
  · cases hi
section
variable {X : Cx} {W : WX} {n np : Nat} {c m x : Str} {g : List M → CR} {p pos apos : Pos} {e o : Expr} {es : List Expr} {fe : FE} {fas : FA}
end
/-! ### a def that may raise -/
/-! ### __init__ of an own exception class: self.f = f for each param f, behind Base.__init__(self, text) -/
section
variable {X : Cx} {x : Str} {e : Expr} {es : List Expr} {ta : TA} {p1 p2 pos : Pos}
end
section
variable {P : Program} {w : World} {K : PySem.W.Frag} {mg : Str → Option Value} {base : Heap} {qual : Str} {st : Stmt} {f : Addr} {fd : FuncData} {k : Nat} {a0 n1 n2 t : Str}
end
/-! ### what is made -/
section
variable {X : Cx} {W : WX} {kp : Nat → Bool} {x : Str} {e : Expr} {es : List Expr} {ta : TA} {p pos : Pos} {ns : List Str} {n : Nat}
/-! ### classes without fields -/
end

/-! ### the library's rule, for clauses with and without a name -/
/-- where a clause stores the exception -/
noncomputable def hσ (nm : Option Nat) (a : Addr) (σ : St) : St := match nm with
  | some i => σ.set i (some (.ref a))
  | none => σ
/-- .. and forgets it -/
noncomputable def hω (nm : Option Nat) (σ : St) : St := match nm with
  | some i => σ.set i none
  | none => σ
/-- what stands behind «except» -/
inductive Spec1 (X : Cx) : Expr → List Value → Prop
  | one {x : Str} {c : Value} {p : Pos} (h : Names X x c) : Spec1 X (.Name x p) [c]
  | two {x y : Str} {c d : Value} {p q pos : Pos} {k : Nat} (h1 : Names X x c) (h2 : Names X y d) : Spec1 X (.Tuple [.Name x p, .Name y q] k pos) [c, d]
  | three {x y z : Str} {c d f : Value} {p q r pos : Pos} {k : Nat} (h1 : Names X x c) (h2 : Names X y d) (h3 : Names X z f) : Spec1 X (.Tuple [.Name x p, .Name y q, .Name z r] k pos) [c, d, f]
/-- the clause's name, and its slot -/
inductive NmOk (X : Cx) : Option Str → Option Nat → Prop
  | no : NmOk X none none
  | as {n : Str} {i : Nat} (hi : X.N[i]? = some n) (hl : X.env.kindOf n = some .local) : NmOk X (some n) (some i)
inductive HdX (X : Cx) : List ExceptHandler → List (List Value × Option Nat × (Addr → Value → Option Addr → TS)) → Prop
  | nil : HdX X [] []
  | cons {spec : Expr} {cs : List Value} {on : Option Str} {nm : Option Nat} {ts : Addr → Value → Option Addr → TS} {b₀ : Stmt} {suite : List Stmt} {pos' : Pos} {hds : List ExceptHandler} {l : List (List Value × Option Nat × (Addr → Value → Option Addr → TS))} (hc : Spec1 X spec cs) (hn : NmOk X on nm)
      (hsu : ∀ (a : Addr) (oe : Obj) (cls : Value) (d : Option Addr) (pn : List (Addr × Obj)), L2N.Zn cls d oe → (∃ vs, oe.data = .fields vs) → PSs (X.suite a ((a, oe) :: pn)) (b₀ :: suite) (ts a cls d)) (r : HdX X hds l) :
      HdX X (.ExceptHandler (some spec) on (b₀ :: suite) pos' :: hds) ((cs, nm, ts) :: l)
section
variable {X : Cx} {pn : List (Addr × Obj)} {σ : St} {H : Hp} {s' : Shared} {h3 : Heap} {t3 : Nat} {a : Addr} {oe : Obj} {cls : Value} {b : Bool}
end
section
variable {X : Cx} {body : List Stmt} {h₀ : ExceptHandler} {hds : List ExceptHandler} {l : List (List Value × Option Nat × (Addr → Value → Option Addr → TS))} {pos : Pos} {tb : WX → TS} {Wout : WX}
end

/-! ### a thing, the exception in hand forgotten -/
mutual
noncomputable def M.calm : M → M
  | .exn _ => .d .any
  | .seq ms => .seq (M.calms ms)
  | .box ms => .box (M.calms ms)
  | .ob c ns ms => .ob c ns (M.calms ms)
  | m => m
noncomputable def M.calms : List M → List M
  | [] => []
  | m :: ms => m.calm :: M.calms ms
end
mutual
/-- where nothing is handled there is no exception in hand -/
theorem RepM.up {K K' : KG} {H F : Hp} {O : OW} (h0 : K.xn = none) (h1 : K.k = K'.k) (h2 : K.cl = K'.cl) : ∀ {m : M} {q : Pl} {v : V}, RepM K H F O q v m → RepM K' H F O q v m
  | .d x, q, v, h => RepD.cx h1 h2 h
  | .lst ds, q, v, h => by
    obtain ⟨a, vs, e, ho, hh, r⟩ := h
    exact ⟨a, vs, e, ho, hh, r.cx h1 h2⟩
  | .dk kd, q, v, h => by
    obtain ⟨a, ks, vs, ds, e, ho, hh, el, r, ek⟩ := h
    exact ⟨a, ks, vs, ds, e, ho, hh, el, r.cx h1 h2, ek⟩
  | .dt kd, q, v, h => by
    obtain ⟨a, ks, vs, ds, e, ho, hh, el, r, ek⟩ := h
    exact ⟨a, ks, vs, ds, e, ho, hh, el, r.cx h1 h2, ek⟩
  | .seq ms, q, v, h => by
    obtain ⟨a, vs, e, ho, hh, r⟩ := h
    exact ⟨a, vs, e, ho, hh, RepMs.up h0 h1 h2 r⟩
  | .box ms, q, v, h => by
    obtain ⟨a, vs, e, ht, r⟩ := h
    exact ⟨a, vs, e, ht, RepMs.up h0 h1 h2 r⟩
  | .ob c ns ms, q, v, h => by
    obtain ⟨a, C, dx, vs, e, ho, hc, hh, el, r⟩ := h
    exact ⟨a, C, dx, vs, e, ho, h2 ▸ hc, hh, el, RepMs.up h0 h1 h2 r⟩
  | .exn x, q, v, h => by
    obtain ⟨a, cls, d, e1, e2, r⟩ := h
    rw [h0] at e1
    cases e1
theorem RepMs.up {K K' : KG} {H F : Hp} {O : OW} (h0 : K.xn = none) (h1 : K.k = K'.k) (h2 : K.cl = K'.cl) : ∀ {ms : List M} {q : Pl} {n : Nat} {vs : List V}, RepMs K H F O q n vs ms → RepMs K' H F O q n vs ms
  | [], q, n, vs, h => h
  | m :: ms, q, n, vs, h => by
    obtain ⟨v, vs', e, h3, h4⟩ := h
    exact ⟨v, vs', e, RepM.up h0 h1 h2 h3, RepMs.up h0 h1 h2 h4⟩
end
theorem RepX.cx {K K' : KG} {F : Hp} {x : Exn} {cls : Value} {d : Option Addr} (h1 : K.k = K'.k) (h2 : K.cl = K'.cl) (h : RepX K F x cls d) : RepX K' F x cls d := by
  obtain ⟨C, a1, a2, a3⟩ := h
  refine ⟨C, h2 ▸ a1, a2, ?_⟩
  rcases a3 with a3 | ⟨dd, ns, vs, ds, e1, e2, e3, e4, e5⟩
  · exact .inl a3
  · exact .inr ⟨dd, ns, vs, ds, e1, e2, e3, e4.cx h1 h2, e5⟩

/-! ### clauses -/
structure Hd where
  cs : List Str
  nm : Option Nat
  f : FS
/-- what is known of the classes: is the one the other, or above it? -/
noncomputable abbrev Isa := Str → Str → Option Bool
noncomputable def onS (nm : Option Nat) (x : Exn) (S : SS) : SS := match nm with
  | some i => S.set i (some (.exn x))
  | none => S
noncomputable def R.hand {α : Type} (r : R α) (k : Exn → SS → R α) : R α := match r with
  | .ok a S => .ok a S
  | .ex x S => k x S
  | .no => .no
/-- the classes that stand behind «except» -/
inductive SpecN (X : Cx) : Expr → List Str → Prop
  | one {x : Str} {p : Pos} (h : Gl X x) (hd : (x == ("__debug__" : Str)) = false) : SpecN X (.Name x p) [x]
  | two {x y : Str} {p q pos : Pos} {k : Nat} (h : Gl X x) (hd : (x == ("__debug__" : Str)) = false) (h2 : Gl X y) (hd2 : (y == ("__debug__" : Str)) = false) : SpecN X (.Tuple [.Name x p, .Name y q] k pos) [x, y]
  | three {x y z : Str} {p q r pos : Pos} {k : Nat} (h : Gl X x) (hd : (x == ("__debug__" : Str)) = false) (h2 : Gl X y) (hd2 : (y == ("__debug__" : Str)) = false) (h3 : Gl X z) (hd3 : (z == ("__debug__" : Str)) = false) : SpecN X (.Tuple [.Name x p, .Name y q, .Name z r] k pos) [x, y, z]
theorem SpecN.spec {X : Cx} {spec : Expr} {cs : List Str} (h : SpecN X spec cs) {Cs : List Addr} (hC : ∀ (i : Nat) (c : Str), cs[i]? = some c → ∃ C, Cs[i]? = some C ∧ X.mg c = some (.ref C)) (hl : Cs.length = cs.length) : Spec1 X spec (Cs.map Value.ref) := by
  cases h with
  | one h hd =>
    match Cs, hl with
    | [C], _ =>
      obtain ⟨C', e1, e2⟩ := hC 0 _ rfl
      cases e1
      exact .one ⟨h, hd, .inl e2⟩
  | two h hd h2 hd2 =>
    match Cs, hl with
    | [C, D], _ =>
      obtain ⟨C', e1, e2⟩ := hC 0 _ rfl
      cases e1
      obtain ⟨D', e3, e4⟩ := hC 1 _ rfl
      cases e3
      exact .two ⟨h, hd, .inl e2⟩ ⟨h2, hd2, .inl e4⟩
  | three h hd h2 hd2 h3 hd3 =>
    match Cs, hl with
    | [C, D, E], _ =>
      obtain ⟨C', e1, e2⟩ := hC 0 _ rfl
      cases e1
      obtain ⟨D', e3, e4⟩ := hC 1 _ rfl
      cases e3
      obtain ⟨D', e5, e6⟩ := hC 2 _ rfl
      cases e5
      exact .three ⟨h, hd, .inl e2⟩ ⟨h2, hd2, .inl e4⟩ ⟨h3, hd3, .inl e6⟩
/-- all the classes that are named are there -/
noncomputable def ClsG (mg : Str → Option Value) (cs : List Str) : Prop := ∀ c ∈ cs, ∃ C : Addr, mg c = some (.ref C)
inductive HdOk (X : Cx) (kp : Nat → Bool) : List ExceptHandler → List Hd → Prop
  | nil : HdOk X kp [] []
  | cons {spec : Expr} {cs : List Str} {on : Option Str} {nm : Option Nat} {f : FS} {b₀ : Stmt} {suite : List Stmt} {pos' : Pos} {hds : List ExceptHandler} {l : List Hd} (hc : SpecN X spec cs) (hC : ClsG X.mg cs) (hn : NmOk X on nm) (hk : ∀ i, nm = some i → kp i = false)
      (hsu : ∀ (a : Addr) (oe : Obj) (pn : List (Addr × Obj)), (∃ vs, oe.data = .fields vs) → DSs (X.suite a ((a, oe) :: pn)) kp f (b₀ :: suite)) (r : HdOk X kp hds l) :
      HdOk X kp (.ExceptHandler (some spec) on (b₀ :: suite) pos' :: hds) (⟨cs, nm, f⟩ :: l)
/-- a class's place -/
noncomputable def adr (mg : Str → Option Value) (c : Str) : Addr := (clsOf mg c).getD 0
theorem adr_of {mg : Str → Option Value} {c : Str} (h : ∃ C : Addr, mg c = some (.ref C)) : mg c = some (.ref (adr mg c)) := by
  obtain ⟨C, h⟩ := h
  unfold adr
  rw [clsOf_ref h]
  exact h
/-- the suite's heap context -/
noncomputable abbrev kgS (X : Cx) (a : Addr) (cls : Value) (d : Option Addr) : KG := ⟨X.K, clsOf X.mg, some (a, cls, d)⟩
noncomputable def wOf (X : Cx) (kp : Nat → Bool) : List Hd → List (List Value × Option Nat × (Addr → Value → Option Addr → TS))
  | [] => []
  | h :: hs => (h.cs.map fun c => Value.ref (adr X.mg c), h.nm, fun a cls d => rdS (kgS X a cls d) kp h.f) :: wOf X kp hs
theorem HdOk.hdx {X : Cx} {kp : Nat → Bool} {hds : List ExceptHandler} {l : List Hd} (h : HdOk X kp hds l) : HdX X hds (wOf X kp l) := by
  induction h with
  | nil => exact .nil
  | @cons spec cs on nm f b₀ suite pos' hds l hc hC hn hk hsu r ih =>
    have s1 : Spec1 X spec ((cs.map (adr X.mg)).map Value.ref) := hc.spec (fun i c e => ⟨adr X.mg c, by simp [e], adr_of (hC c (List.mem_of_getElem? e))⟩) (by simp)
    rw [List.map_map] at s1
    refine .cons s1 hn (fun a oe cls d pn hz hd => ?_) ih
    have ek : kg (X.suite a ((a, oe) :: pn)) = kgS X a cls d := by obtain ⟨h1, h2, _⟩ := hz; show (⟨X.K, clsOf X.mg, some (a, oe.cls, oe.dict)⟩ : KG) = _; rw [h1, h2]
    exact ek ▸ hsu a oe pn hd
section
variable {X : Cx} {kp : Nat → Bool} {isa : Isa} {W : WX}
theorem Rp.on {K K' : KG} {H F : Hp} {O : OW} {σ : St} {S : SS} {a : Addr} {cls : Value} {d : Option Addr} {x : Exn} {nm : Option Nat} (h0 : K.xn = none) (h1 : K.k = K'.k) (h2 : K.cl = K'.cl) (h3 : K'.xn = some (a, cls, d)) (rx : RepX K F x cls d) (r : Rp K H F O σ S) :
    Rp K' H F O (hσ nm a σ) (onS nm x S) := by
  have base : Rp K' H F O σ S := ⟨r.bs, r.len, fun i m e => by
    obtain ⟨v, hv, rm⟩ := r.sl i m e
    exact ⟨v, hv, rm.up h0 h1 h2⟩⟩
  cases nm with
  | none => exact base
  | some i =>
    refine ⟨r.bs, by show (S.set i _).length = (σ.set i _).length; rw [List.length_set, List.length_set]; exact r.len, fun j m e => ?_⟩
    rcases SS.at_set e with ⟨e1, e2⟩ | ⟨ne, e⟩
    · subst e1
      cases e2
      have hl : i < σ.length := by
        rw [← r.len]
        unfold SS.at at e
        by_cases z : i < S.length
        · exact z
        · rw [List.getElem?_eq_none (by show (S.set i _).length ≤ i; rw [List.length_set]; omega)] at e; cases e
      exact ⟨.ref a, by show (σ.set i _)[i]? = _; rw [List.getElem?_set_self hl], a, cls, d, h3, rfl, rx.cx h1 h2⟩
    · obtain ⟨v, hv, rm⟩ := base.sl j m e
      exact ⟨v, by show (σ.set i _)[j]? = _; rw [List.getElem?_set_ne ne]; exact hv, rm⟩
theorem Kp.on {σ σ' : St} {nm : Option Nat} {a : Addr} (h : Kp kp (hσ nm a σ) σ') (hk : ∀ i, nm = some i → kp i = false) : Kp kp σ (hω nm σ') := by
  cases nm with
  | none => exact h
  | some i =>
    have h : Kp kp (σ.set i (some (.ref a))) σ' := h
    exact ((Kp.set (hk i rfl)).trans h).trans (Kp.set (hk i rfl))
end

/-- c is an exception's class, as isinstance and fields ask it -/
structure ExcF (K : PySem.W.Frag) (mg : Str → Option Value) (c : Str) : Prop where
  ex : ∃ C : Addr, mg c = some (.ref C) ∧ ExcC K C
structure FldF (K : PySem.W.Frag) (mg : Str → Option Value) (c f : Str) : Prop where
  ex : ∃ C : Addr, mg c = some (.ref C) ∧ PySem.W.findIn K (.ref C) f = some none
structure IsbF (K : PySem.W.Frag) (mg : Str → Option Value) (c : Str) (T : String) (b : Bool) : Prop where
  ex : ∃ C : Addr, mg c = some (.ref C) ∧ PySem.W.kitOne K (.ref C) (.type T) = some b
/-- what is known of the classes whose exceptions may be in hand -/
structure XcG (K : PySem.W.Frag) (mg : Str → Option Value) (cs : List Str) : Prop where
  ex : ∀ c ∈ cs, ExcF K mg c
noncomputable def FlG (K : PySem.W.Frag) (mg : Str → Option Value) (xf : List (Str × Str)) : Prop := ∀ p ∈ xf, FldF K mg p.1 p.2
noncomputable def IsbG (K : PySem.W.Frag) (mg : Str → Option Value) (xb : List (Str × String × Bool)) : Prop := ∀ p ∈ xb, IsbF K mg p.1 p.2.1 p.2.2
section
variable {X : Cx} {a : Addr} {oe : Obj} {pn : List (Addr × Obj)} {e : Expr} {pos : Pos}
/-! ### e.f -/
/-! ### isinstance(e, ..) -/
variable {isa : Isa} {cs : List Str} {i : Nat} {p : Pos}
end

noncomputable def R.wpx0 {α : Type} (r : R α) (Q : α → SS → Prop) (E : Exn → SS → Prop) : Prop := match r with
  | .ok a S => Q a S
  | .ex x S => E x S
  | .no => False
noncomputable def CR.wpx0 (r : CR) (Q : M → List (Option M) → Prop) (E : Exn → List (Option M) → Prop) : Prop := match r with
  | .ok a S => Q a S
  | .ex x S => E x S
  | .no => False
@[irreducible] noncomputable def R.wpx {α : Type} (r : R α) (Q : α → SS → Prop) (E : Exn → SS → Prop) (_ : Ph Q := ⟨⟩) : Prop := R.wpx0 r Q E
@[irreducible] noncomputable def CR.wpx (r : CR) (Q : M → List (Option M) → Prop) (E : Exn → List (Option M) → Prop) (_ : Ph Q := ⟨⟩) : Prop := CR.wpx0 r Q E
section
variable {α β : Type}
theorem R.wpx_eq (r : R α) (Q : α → SS → Prop) (E : Exn → SS → Prop) (p : Ph Q) : R.wpx r Q E p = R.wpx0 r Q E := by unfold R.wpx; rfl
theorem CR.wpx_eq (r : CR) (Q : M → List (Option M) → Prop) (E : Exn → List (Option M) → Prop) (p : Ph Q) : CR.wpx r Q E p = CR.wpx0 r Q E := by unfold CR.wpx; rfl
@[simp] theorem wpx_ok (a : α) (S : SS) (Q : α → SS → Prop) (E : Exn → SS → Prop) : R.wpx (.ok a S) Q E = Q a S := by rw [R.wpx_eq]; rfl
@[simp] theorem wpx_ex (x : Exn) (S : SS) (Q : α → SS → Prop) (E : Exn → SS → Prop) : R.wpx (.ex x S) Q E = E x S := by rw [R.wpx_eq]; rfl
@[simp] theorem wpx_no (Q : α → SS → Prop) (E : Exn → SS → Prop) : R.wpx .no Q E = False := by rw [R.wpx_eq]; rfl
@[simp] theorem cwpx_ok (a : M) (S : List (Option M)) (Q : M → List (Option M) → Prop) (E : Exn → List (Option M) → Prop) : CR.wpx (.ok a S) Q E = Q a S := by rw [CR.wpx_eq]; rfl
@[simp] theorem cwpx_ex (x : Exn) (S : List (Option M)) (Q : M → List (Option M) → Prop) (E : Exn → List (Option M) → Prop) : CR.wpx (.ex x S) Q E = E x S := by rw [CR.wpx_eq]; rfl
@[simp] theorem cwpx_no (Q : M → List (Option M) → Prop) (E : Exn → List (Option M) → Prop) : CR.wpx .no Q E = False := by rw [CR.wpx_eq]; rfl
@[simp] theorem wpx_bind (r : R α) (f : α → SS → R β) (Q : β → SS → Prop) (E : Exn → SS → Prop) : R.wpx (r.bind f) Q E = R.wpx r (fun a S => R.wpx (f a S) Q E) E := by
  cases r with
  | ok a S => rw [bind_ok, wpx_ok]
  | ex _ _ => rw [bind_ex, wpx_ex, wpx_ex]
  | no => rw [bind_no, wpx_no, wpx_no]
@[simp] theorem wpx_nx (f : SS → R α) (S : SS) (Q : α → SS → Prop) (E : Exn → SS → Prop) : R.wpx (nx f S) Q E = R.wp (f S) Q := by
  unfold nx
  cases f S with
  | ok a S => rw [wpx_ok, wp_ok]
  | ex _ _ => rw [wpx_no, wp_ex]
  | no => rw [wpx_no, wp_no]
@[simp] theorem wp_nx (f : SS → R α) (S : SS) (Q : α → SS → Prop) : R.wp (nx f S) Q = R.wp (f S) Q := by
  unfold nx
  cases f S with
  | ok a S => rfl
  | ex _ _ => rw [wp_no, wp_ex]
  | no => rfl
theorem R.wpx_mono {r : R α} {Q Q' : α → SS → Prop} {E E' : Exn → SS → Prop} (h : r.wpx Q E) (k : ∀ a S, Q a S → Q' a S) (ke : ∀ x S, E x S → E' x S) : r.wpx Q' E' := by
  rw [R.wpx_eq] at h ⊢
  cases r with
  | ok a S => exact k _ _ h
  | ex _ _ => exact ke _ _ h
  | no => exact h
theorem CR.wpx_mono {r : CR} {Q Q' : M → List (Option M) → Prop} {E E' : Exn → List (Option M) → Prop} (h : r.wpx Q E) (k : ∀ a S, Q a S → Q' a S) (ke : ∀ x S, E x S → E' x S) : r.wpx Q' E' := by
  rw [CR.wpx_eq] at h ⊢
  cases r with
  | ok a S => exact k _ _ h
  | ex _ _ => exact ke _ _ h
  | no => exact h
/-- what an outcome is: told or raised -/
theorem CR.wpx_or {r : CR} {Q : M → List (Option M) → Prop} {E : Exn → List (Option M) → Prop} (h : r.wpx Q E) : (∃ a S, r = .ok a S ∧ Q a S) ∨ ∃ x S, r = .ex x S ∧ E x S := by
  rw [CR.wpx_eq] at h
  cases r with
  | ok a S => exact .inl ⟨_, _, rfl, h⟩
  | ex x S => exact .inr ⟨_, _, rfl, h⟩
  | no => exact h.elim
theorem R.wpx_or {r : R α} {Q : α → SS → Prop} {E : Exn → SS → Prop} (h : r.wpx Q E) : (∃ a S, r = .ok a S ∧ Q a S) ∨ ∃ x S, r = .ex x S ∧ E x S := by
  rw [R.wpx_eq] at h
  cases r with
  | ok a S => exact .inl ⟨_, _, rfl, h⟩
  | ex x S => exact .inr ⟨_, _, rfl, h⟩
  | no => exact h.elim
end
@[simp] theorem toR_ex (x : Exn) (S : List (Option M)) (h : List (Option M) → SS) : CR.toR (.ex x S) h = .ex x (h S) := (rfl)
@[simp] theorem wpx_toR (c : CR) (h : List (Option M) → SS) (Q : M → SS → Prop) (E : Exn → SS → Prop) : R.wpx (c.toR h) Q E = c.wpx (fun r fin => Q r (h fin)) (fun x fin => E x (h fin)) := by rw [R.wpx_eq, CR.wpx_eq]; cases c <;> rfl
@[simp] theorem wpx_hand {α : Type} (r : R α) (k : Exn → SS → R α) (Q : α → SS → Prop) (E : Exn → SS → Prop) : R.wpx (r.hand k) Q E = R.wpx r Q (fun x S => R.wpx (k x S) Q E) := by
  cases r with
  | ok a S => show R.wpx (.ok a S) Q E = _; rw [wpx_ok, wpx_ok]
  | ex x S => show R.wpx (k x S) Q E = _; rw [wpx_ex]
  | no => show R.wpx .no Q E = _; rw [wpx_no, wpx_no]
@[simp] theorem wp_hand {α : Type} (r : R α) (k : Exn → SS → R α) (Q : α → SS → Prop) : R.wp (r.hand k) Q = R.wpx r Q (fun x S => R.wp (k x S) Q) := by
  cases r with
  | ok a S => show R.wp (.ok a S) Q = _; rw [wp_ok, wpx_ok]
  | ex x S => show R.wp (k x S) Q = _; rw [wpx_ex]
  | no => show R.wp .no Q = _; rw [wp_no, wpx_no]
@[simp] theorem onS_some (i : Nat) (x : Exn) (S : SS) : onS (some i) x S = S.set i (some (.exn x)) := (rfl)
@[simp] theorem onS_none (x : Exn) (S : SS) : onS none x S = S := (rfl)
@[simp] theorem calm_d (x : D) : M.calm (.d x) = .d x := (rfl)
@[simp] theorem calm_lst (x : List D) : M.calm (.lst x) = .lst x := (rfl)
@[simp] theorem calm_dk (x : List (Key × D)) : M.calm (.dk x) = .dk x := (rfl)
@[simp] theorem calm_dt (x : List (List Key × D)) : M.calm (.dt x) = .dt x := (rfl)
@[simp] theorem calm_seq (x : List M) : M.calm (.seq x) = .seq (M.calms x) := (rfl)
@[simp] theorem calm_box (x : List M) : M.calm (.box x) = .box (M.calms x) := (rfl)
@[simp] theorem calm_ob (c : Str) (ns : List Str) (x : List M) : M.calm (.ob c ns x) = .ob c ns (M.calms x) := (rfl)
@[simp] theorem calm_exn (x : Exn) : M.calm (.exn x) = .d .any := (rfl)
@[simp] theorem calms_nil : M.calms [] = [] := (rfl)
@[simp] theorem calms_cons (m : M) (ms : List M) : M.calms (m :: ms) = m.calm :: M.calms ms := (rfl)
@[simp] theorem own_exn (x : Exn) : M.own (.exn x) = false := (rfl)
@[simp] theorem toD_exn (x : Exn) : M.toD (.exn x) = .any := (rfl)
/-! ### a body's end; loops -/
theorem run_wpx {np nl : Nat} {kp : Nat → Bool} {body : FS} {ms : List M} {Q : M → List (Option M) → Prop} {E : Exn → List (Option M) → Prop} (hl : ms.length = np) (h : (body (ms.map some ++ List.replicate (nl - np) none)).wpx (endQ np kp Q) (fun x S => E x (finOf kp S 0 np))) : (runFn np nl kp body ms).wpx Q E := by
  rw [run_ap, if_pos hl]
  rcases R.wpx_or h with ⟨fl, S, e, h⟩ | ⟨x, S, e, h⟩
  · rw [e]
    cases fl with
    | rt m => rw [CR.wpx_eq]; exact h
    | nx => rw [CR.wpx_eq]; exact h
    | bk => exact h.elim
    | ct => exact h.elim
  · rw [e]
    rw [CR.wpx_eq]
    exact h
/-- a walk, by what holds with what is left -/
theorem wpx_forL {g : FG} {b : FS} {Q : Fl → SS → Prop} {E : Exn → SS → Prop} (I : List D → SS → Prop) (h0 : ∀ S, I [] S → Q .nx S)
    (h : ∀ d ds S, I (d :: ds) S → ∃ S1, g d S = some S1 ∧ (b S1).wpx (fun fl S2 => match fl with | .nx => I ds S2 | .ct => I ds S2 | .bk => Q .nx S2 | .rt m => Q (.rt m) S2) E) :
    ∀ (ds : List D) (S : SS), I ds S → (forL g b ds S).wpx Q E
  | [], S, hI => by rw [show forL g b [] S = .ok .nx S from rfl, wpx_ok]; exact h0 S hI
  | d :: ds, S, hI => by
    obtain ⟨S1, e1, h1⟩ := h d ds S hI
    rw [forL_cons, e1]
    dsimp only
    rw [wpx_bind]
    refine R.wpx_mono h1 (fun fl S2 h2 => ?_) fun _ _ q => q
    cases fl with
    | nx => exact wpx_forL I h0 h ds S2 h2
    | ct => exact wpx_forL I h0 h ds S2 h2
    | bk => rw [wpx_ok]; exact h2
    | rt m => rw [wpx_ok]; exact h2
/-- no exception comes out of the call -/
noncomputable def nxc (g : List M → CR) : List M → CR := fun ms => match g ms with
  | .ok m fin => .ok m fin
  | _ => .no
theorem nxc_ok {g : List M → CR} {ms : List M} {r : M} {fin : List (Option M)} (h : nxc g ms = .ok r fin) : g ms = .ok r fin := by
  unfold nxc at h
  cases e : g ms with
  | ok a b => rw [e] at h; cases h; rfl
  | ex a b => rw [e] at h; cases h
  | no => rw [e] at h; cases h
@[simp] theorem cwp_nxc (g : List M → CR) (ms : List M) (Q : M → List (Option M) → Prop) : CR.wp (nxc g ms) Q = CR.wp (g ms) Q := by
  unfold nxc
  cases e : g ms with
  | ok a b => rfl
  | ex a b => rw [CR.wp_eq, CR.wp_eq]; rfl
  | no => rfl
section
variable {P : Program} {w : World} {K : PySem.W.Frag} {mg : Str → Option Value} {base : Heap} {k n np : Nat} {f : Addr} {fd : FuncData} {ps : List Str} {x c m : Str} {g : List M → CR} {KK : KG}
theorem FnX.plain (F : FnX P w K mg base k f fd ps (spX KK np g)) : FnG P w K mg base k f fd ps (spD KK np (nxc g)) := by
  have up : ∀ vs H Q, (∃ E, spD KK np (nxc g) vs H Q E) → spX KK np g vs H Q (fun _ _ _ => False) := fun vs H Q ⟨E, F', O, ms, r, fin, h1, h2, h3, h4, h5, h6⟩ => .inl ⟨F', O, ms, r, fin, h1, h2, h3, h4, nxc_ok h5, h6⟩
  refine ⟨fun vs H Q E h => F.len vs H Q _ (up vs H Q ⟨E, h⟩), fun A outer s H args us vs Q E hr he hb hv hs => codeAny_mono (F.run A outer s H args us vs Q _ hr he hb hv (up vs H Q ⟨E, hs⟩)) fun r s' hq => ?_⟩
  cases r with
  | ok fl => cases fl <;> exact hq
  | error e =>
    obtain ⟨_, _, _, _, _, _, _, _, _, _, _, _, h⟩ := hq
    exact h.elim
theorem FnDx.plain (F : FnDx P w K mg base n x np g) : FnD P w K mg base n x np (nxc g) :=
  let ⟨f, fd, ps, h1, h2, h3, h4, h5⟩ := F.ex
  ⟨f, fd, ps, h1, h2.plain, h3, h4, h5⟩
theorem FnMx.plain (F : FnMx P w K mg base n c m np g) : FnM P w K mg base n c m np (nxc g) :=
  let ⟨C, f, fd, ps, h1, h2, h3, h4, h5, h6⟩ := F.ex
  ⟨C, f, fd, ps, h1, h2, h3, h4, h5.plain, h6⟩
theorem FnIx.plain (F : FnIx P w K mg base n c np g) : FnI P w K mg base n c np (nxc g) := by
  obtain ⟨C, f, h1, h2, h3⟩ := F.ex
  rcases h3 with h | ⟨k, fd, ps, e1, e2, e3, e4⟩
  · exact ⟨.inl fun ms => by unfold nxc; rw [h ms]⟩
  · exact ⟨.inr ⟨k, C, f, fd, ps, e1, h1, h2, e2, e3.plain, e4⟩⟩
end
section
variable {K : PySem.W.Frag} {mg : Str → Option Value} {C D : Addr} {c d : Str} {b : Bool}
end
theorem FlG.nil {K : PySem.W.Frag} {mg : Str → Option Value} : FlG K mg [] := fun _ h => nomatch h
theorem FlG.cons {K : PySem.W.Frag} {mg : Str → Option Value} {c f : Str} {r : List (Str × Str)} (h : FldF K mg c f) (h2 : FlG K mg r) : FlG K mg ((c, f) :: r) := fun p hp => by
  rcases List.mem_cons.mp hp with rfl | hp
  · exact h
  · exact h2 p hp
theorem IsbG.nil {K : PySem.W.Frag} {mg : Str → Option Value} : IsbG K mg [] := fun _ h => nomatch h
theorem IsbG.cons {K : PySem.W.Frag} {mg : Str → Option Value} {c : Str} {T : String} {b : Bool} {r : List (Str × String × Bool)} (h : IsbF K mg c T b) (h2 : IsbG K mg r) : IsbG K mg ((c, T, b) :: r) := fun p hp => by
  rcases List.mem_cons.mp hp with rfl | hp
  · exact h
  · exact h2 p hp
theorem XcG.nil {K : PySem.W.Frag} {mg : Str → Option Value} : XcG K mg [] := ⟨fun _ h => nomatch h⟩
theorem XcG.cons {K : PySem.W.Frag} {mg : Str → Option Value} {c : Str} {r : List Str} (h : ExcF K mg c) (h2 : XcG K mg r) : XcG K mg (c :: r) := ⟨fun p hp => by
  rcases List.mem_cons.mp hp with rfl | hp
  · exact h
  · exact h2.ex p hp⟩
theorem ClsG.nil {mg : Str → Option Value} : ClsG mg [] := fun _ h => nomatch h
theorem ClsG.cons {mg : Str → Option Value} {c : Str} {C : Addr} {r : List Str} (h : mg c = some (.ref C)) (h2 : ClsG mg r) : ClsG mg (c :: r) := fun p hp => by
  rcases List.mem_cons.mp hp with rfl | hp
  · exact ⟨C, h⟩
  · exact h2 p hp
/-! ### the rows of classes: a tuple of their names -/
section
variable {X : Cx} {mg : Str → Option Value}
end

/-- a name's thing, moved away -/
noncomputable def mMv (i : Nat) : FM := fun S => match S.at i with
  | some m => .ok m (S.set i none)
  | none => .no
theorem dm_mv {X : Cx} {e : Expr} {i : Nat} (h : PE X e (tVar i)) : DM X (mMv i) e := PE.imp h fun σ H Q ⟨F, O, S, m, S', r, hf, k⟩ => by
  unfold mMv at hf
  cases em : S.at i with
  | none => rw [em] at hf; cases hf
  | some m0 =>
    rw [em] at hf
    cases hf
    obtain ⟨v, hv, r1, rm⟩ := r.give em
    exact ⟨v, hv, k v H F _ mv_stp r1 rm⟩
@[simp] theorem mMv_ap (i : Nat) (S : SS) : mMv i S = (match S.at i with
  | some m => .ok m (S.set i none)
  | none => .no) := (rfl)
section
variable {X : Cx} {pins : List (Addr × Obj)} {s : Shared} {σ : St} {H F : Hp}
end
section
variable {X : Cx}
end
section
variable {prog : Program} {w : World} {A : Around} {E : Value → Shared → Prop} {s : Shared}
end
section
variable {X : Cx}
end
section
variable {X : Cx} {kp : Nat → Bool} {e : Expr} {pos pt : Pos} {x y : Str} {px py ps : Pos} {kt : Nat}
end
/-- where a parameter's value comes from: the i-th positional one, the i-th keyword's, the i-th default that lacks (a constant) -/
inductive Arr | p (i : Nat) | k (i : Nat) | c (i : Nat) (d : D)
noncomputable def ar1 {α : Type} (xs ms zs : List α) : Arr → List α
  | .p i => xs[i]?.toList
  | .k i => zs[i]?.toList
  | .c i _ => ms[i]?.toList
noncomputable def arG {α : Type} (as : List Arr) (xs ms zs : List α) : List α := as.flatMap (ar1 xs ms zs)
noncomputable def cV : D → V
  | .int i => .int i
  | .str x => .str x
  | .bl b => .bl b
  | _ => .non
noncomputable def flatC : D → Bool
  | .int _ => true
  | .str _ => true
  | .bl _ => true
  | .non => true
  | _ => false
theorem cV_rep {K : KG} {F : Hp} {d : D} (h : flatC d = true) : RepD K F (cV d) d := by
  cases d <;> first | exact .non | exact .bl _ | exact .int _ | exact .str _ | cases h
noncomputable def arO1 (os zs : List Ov) : Arr → List Ov
  | .p i => os[i]?.toList
  | .k i => zs[i]?.toList
  | .c _ d => [.d d]
noncomputable def arO (as : List Arr) (os zs : List Ov) : List Ov := as.flatMap (arO1 os zs)
noncomputable def arV1 (vs zs : List V) : Arr → List V
  | .p i => vs[i]?.toList
  | .k i => zs[i]?.toList
  | .c _ d => [cV d]
noncomputable def arV (as : List Arr) (vs zs : List V) : List V := as.flatMap (arV1 vs zs)
noncomputable def arF : Arr → Bool
  | .c _ d => flatC d
  | _ => true
noncomputable def arK (n m : Nat) : Arr → Bool
  | .p i => decide (i < n)
  | .k i => decide (i < m)
  | .c _ _ => true
theorem vals_opt : ∀ {xs : List V} {us : List Value} (i : Nat), Vals xs us → Vals xs[i]?.toList us[i]?.toList
  | _, _, i, .nil => by simp; exact .nil
  | _, _, 0, .cons h _ => .cons h .nil
  | _, _, i + 1, .cons _ r => by simpa using vals_opt i r
theorem arG_rel {as : List Arr} {vs mz zs : List V} {us mv ws : List Value} (h1 : Vals vs us) (h2 : Vals mz mv) (h3 : Vals zs ws) : Vals (arG as vs mz zs) (arG as us mv ws) := by
  induction as with
  | nil => exact .nil
  | cons a as ih =>
    have e1 : arG (a :: as) vs mz zs = ar1 vs mz zs a ++ arG as vs mz zs := rfl
    have e2 : arG (a :: as) us mv ws = ar1 us mv ws a ++ arG as us mv ws := rfl
    rw [e1, e2]
    have h0 : Vals (ar1 vs mz zs a) (ar1 us mv ws a) := by
      cases a with
      | p i => exact vals_opt i h1
      | k i => exact vals_opt i h3
      | c i d => exact vals_opt i h2
    exact h0.append ih
theorem ovs_opt {K : KG} {F : Hp} {σ : St} : ∀ {vs : List V} {os : List Ov} (i : Nat), RepOvs K F σ vs os → RepOvs K F σ vs[i]?.toList os[i]?.toList
  | _, _, i, .nil => by simp; exact .nil
  | _, _, 0, .cons h _ => .cons h .nil
  | _, _, i + 1, .cons _ r => by simpa using ovs_opt i r
theorem ovs_app {K : KG} {F : Hp} {σ : St} : ∀ {vs ws : List V} {os ps : List Ov}, RepOvs K F σ vs os → RepOvs K F σ ws ps → RepOvs K F σ (vs ++ ws) (os ++ ps)
  | _, _, _, _, .nil, h => h
  | _, _, _, _, .cons a r, h => .cons a (ovs_app r h)
theorem arO_rel {K : KG} {F : Hp} {σ : St} {as : List Arr} (hf : as.all arF = true) {vs zs : List V} {os qs : List Ov} (h1 : RepOvs K F σ vs os) (h2 : RepOvs K F σ zs qs) : RepOvs K F σ (arV as vs zs) (arO as os qs) := by
  induction as with
  | nil => exact .nil
  | cons a as ih =>
    rw [List.all_cons, Bool.and_eq_true] at hf
    have e1 : arV (a :: as) vs zs = arV1 vs zs a ++ arV as vs zs := rfl
    have e2 : arO (a :: as) os qs = arO1 os qs a ++ arO as os qs := rfl
    rw [e1, e2]
    refine ovs_app ?_ (ih hf.2)
    cases a with
    | p i => exact ovs_opt i h1
    | k i => exact ovs_opt i h2
    | c i d => exact .cons (cV_rep hf.1) .nil
/-- a way to call -/
structure KBx (K : PySem.W.Frag) (fd : FuncData) (ps : List Str) (n : Nat) (ks : List Str) (as : List Arr) : Prop where
  ex : ∃ g, KBn K fd ps n ks g (arV as)
theorem kbx_of {K : PySem.W.Frag} {x qual : Str} {params : Arguments} {body : List Stmt} {scope : Scope} {kws : List (Str × V)} {f : Addr} {fd : FuncData} {ps : List Str} (F : FunD K x qual params body scope [] kws f fd) (n : Nat) (ks : List Str) (ms : List (Str × V)) (as : List Arr) (hk : kws ≠ []) (hms : ∀ q ∈ ms, q ∈ kws)
    (h : ∀ (D : Addr) (doc pm : Value) (an : Option Addr) (cdv ct : Value) (us mv ws : List Value), us.length = n → mv.length = ms.length → ws.length = ks.length →
      KwChain D ((ms.map (·.1)).zip mv) (bindArgs (PySem.W.fnOf x qual params body scope .none (.ref D) doc pm an cdv ct) ⟨us, ks.zip ws⟩) (ps.zip (arG as us mv ws)))
    (he : ∀ vs zs : List V, arG as vs (ms.map (·.2)) zs = arV as vs zs) : KBx K fd ps n ks as := by
  obtain ⟨mv, hb⟩ := F.kbinds0 n ks ms (fun {α} => arG as) hk hms (fun a b c => arG_rel a b c) h
  have : (fun vs zs => arG as vs (ms.map (·.2)) zs) = arV as := funext fun vs => funext fun zs => he vs zs
  exact ⟨_, this ▸ hb⟩
noncomputable abbrev DK (X : Cx) (f : FA) (kws : List Keyword) : Prop := PK X kws (rdA (kg X) f)
theorem PK.imp {X : Cx} {kws : List Keyword} {t t' : TA} (h : PK X kws t) (hm : ∀ σ H Q, t' σ H Q → t σ H Q) : PK X kws t' := ⟨fun pos pins s σ H Q I q => h.run pos pins s σ H Q I (hm σ H Q q)⟩
section
variable {X : Cx} {e : Expr} {kws : List Keyword} {kpos : Pos} {nm : Option Str}
theorem dk_nil : DK X aNil [] := PK.imp pk_nil fun σ H Q ⟨F, O, S, os, S', r, hf, k⟩ => by
  cases hf
  exact k [] H F O (Stp.refl _ _ _) r .nil
theorem dk_cons {f : FE} {g : FA} (h1 : DE X f e) (h2 : DK X g kws) : DK X (aCons f g) (⟨nm, e, kpos⟩ :: kws) := PK.imp (pk_cons h1 h2) fun σ H Q ⟨F, O, S, os, S', r, hf, k⟩ => by
  obtain ⟨o, S1, e1, e2⟩ := R.bind_ok hf
  obtain ⟨or, S2, e3, e4⟩ := R.bind_ok e2
  cases e4
  exact ⟨F, O, S, o, S1, r, e1, fun v H1 F1 O1 st1 r1 ro => ⟨F1, O1, S1, or, S', r1, e3, fun vs H2 F2 O2 st2 r2 rs => k (v :: vs) H2 F2 O2 (st1.trans st2) r2 (.cons (ro.mono st2.ff) rs)⟩⟩
end
/-- a def with keyword-only parameters: ways tells how it may be called -/
structure FnK (P : Program) (w : World) (K : PySem.W.Frag) (mg : Str → Option Value) (base : Heap) (n : Nat) (x : Str) (np : Nat) (ways : List (Nat × List Str × List Arr)) (g : List M → CR) : Prop where
  ex : ∃ (f : Addr) (fd : FuncData) (ps : List Str), ps.length = np ∧ FnG P w K mg base n f fd ps (spD (kg0 K mg) np g) ∧ mg x = some (.ref f) ∧ PySem.W.keepIn K (.ref f) = true ∧ ∀ q ∈ ways, KBx K fd ps q.1 q.2.1 q.2.2
structure FnKx (P : Program) (w : World) (K : PySem.W.Frag) (mg : Str → Option Value) (base : Heap) (n : Nat) (x : Str) (np : Nat) (ways : List (Nat × List Str × List Arr)) (g : List M → CR) : Prop where
  ex : ∃ (f : Addr) (fd : FuncData) (ps : List Str), ps.length = np ∧ FnX P w K mg base n f fd ps (spX (kg0 K mg) np g) ∧ mg x = some (.ref f) ∧ PySem.W.keepIn K (.ref f) = true ∧ ∀ q ∈ ways, KBx K fd ps q.1 q.2.1 q.2.2
theorem FnKx.plain {P : Program} {w : World} {K : PySem.W.Frag} {mg : Str → Option Value} {base : Heap} {n np : Nat} {x : Str} {ways : List (Nat × List Str × List Arr)} {g : List M → CR} (F : FnKx P w K mg base n x np ways g) : FnK P w K mg base n x np ways (nxc g) :=
  let ⟨f, fd, ps, h1, h2, h3, h4, h5⟩ := F.ex
  ⟨f, fd, ps, h1, h2.plain, h3, h4, h5⟩
noncomputable def mCallK (g : List M → CR) (as : List Arr) (fas fks : FA) : FM := fun S => (fas S).bind fun os S1 => (fks S1).bind fun zs S2 => callR g (arO as os zs) S2
section
variable {X : Cx} {W : WX} {k n np : Nat} {f : Addr} {fd : FuncData} {ps ks : List Str} {sp : Sp} {E : XK} {x : Str} {p pos : Pos} {e : Expr} {es : List Expr} {kws : List Keyword} {t tk : TA} {g : List Value → List Value → List Value} {gV : List V → List V → List V}
theorem run_gN {pins : List (Addr × Obj)} {σ : St} {H : Hp} {s : Shared} {Q : VK} {us ws : List Value} {vs zs : List V} (F : FnG X.prog X.w X.K X.mg X.base k f fd ps sp) (hr : RoomG k X.A) (hb : KBn X.K fd ps n ks g gV)
    (I : Inv X pins σ H s) (r : Vals vs us) (rz : Vals zs ws) (l1 : vs.length = n) (l2 : zs.length = ks.length) (h : sp (gV vs zs) H Q E) : wpAny (model X.prog X.w) X.A (call (.ref f) us (ks.zip ws)) (EP X pins σ Q) X.xe s := by
  have r2 := hb.rel r rz
  refine wpAny_call (codeAny_mono (F.run X.A X.stack s H ⟨us, ks.zip ws⟩ (g us ws) (gV vs zs) Q E hr I.env0 (hb.to s us ws I.kIn (r.length.symm.trans l1) (rz.length.symm.trans l2)) r2 h) fun r s' hq => ?_)
  match r, hq with
  | .ok (.ret u), hq => exact I.after hq
theorem pe_callGN (F : FnG X.prog X.w X.K X.mg X.base k f fd ps sp) (hr : RoomG k X.A) (hg : Gl X x) (hm : X.mg x = some (.ref f)) (hk : PySem.W.keepIn X.K (.ref f) = true) (hb : KBn X.K fd ps n ks g gV)
    (ha : PA X (e :: es) t) (hkw : PK X kws tk) (hall : (backToKw pos (keywordEach kws X.env)).all (·.1.isSome) = true := by rfl) (hks : (backToKw pos (keywordEach kws X.env)).filterMap (·.1) = ks := by rfl)
    (hdb : (x == ("__debug__" : Str)) = false := by decide) (he : starEach (e :: es) X.env = (false, eval e X.env) :: starEach es X.env := by rfl)
    (hpl : ((backTo pos (starEach (e :: es) X.env)).any (·.1) || (backToKw pos (keywordEach kws X.env)).any (·.1.isNone)) = false := by rfl) :
    PE X (.Call (.Name x p) (e :: es) kws pos) (tCallN n ks.length sp gV E t tk) := by
  refine ⟨fun pins s σ H Q I h => ?_⟩
  refine wpAny_Call_Name_kw (ld_glob I hg hm ?_ hdb)
  refine PySem.W.callWith_KW (h₀ := X.base) I.ok.mod.kin hk hall (thn (ha.run pos pins s σ H _ I h) fun us s1 ⟨vs, H1, I1, r, q⟩ => ?_) hpl he
  refine thn (hkw.run pos pins s1 σ H1 _ I1 q) fun ws s2 ⟨zs, H2, I2, rz, l1, l2, q2⟩ => ⟨I2.kIn, ?_⟩
  rw [hks]
  exact run_gN F hr hb I2 r rz l1 l2 q2
theorem arO_len {as : List Arr} {os zs : List Ov} {n m : Nat} (h1 : os.length = n) (h2 : zs.length = m) (hok : as.all (arK n m) = true) : (arO as os zs).length = as.length := by
  induction as with
  | nil => rfl
  | cons a as ih =>
    rw [List.all_cons, Bool.and_eq_true] at hok
    have e2 : arO (a :: as) os zs = arO1 os zs a ++ arO as os zs := rfl
    rw [e2, List.length_append, ih hok.2, List.length_cons]
    cases a with
    | p i =>
      have hi : i < os.length := by rw [h1]; exact of_decide_eq_true hok.1
      show (os[i]?.toList).length + as.length = _
      rw [List.getElem?_eq_getElem hi]
      show 1 + as.length = _
      omega
    | k i =>
      have hi : i < zs.length := by rw [h2]; exact of_decide_eq_true hok.1
      show (zs[i]?.toList).length + as.length = _
      rw [List.getElem?_eq_getElem hi]
      show 1 + as.length = _
      omega
    | c i d => show 1 + as.length = _; omega
theorem dm_callK {gg : List M → CR} {fas fks : FA} {as : List Arr} {ways : List (Nat × List Str × List Arr)} {m : Nat} (F : FnK X.prog X.w X.K X.mg X.base k x np ways gg) (hr : RoomG k X.A) (hg : Gl X x) (hw : (n, ks, as) ∈ ways)
    (ha : DA X fas (e :: es)) (hm : Many fas n) (hkw : DK X fks kws) (hmk : Many fks m) (hkl : ks.length = m := by rfl) (hnp : as.length = np := by rfl) (hf : as.all arF = true := by rfl)
    (hok : as.all (arK n m) = true := by rfl)
    (hall : (backToKw pos (keywordEach kws X.env)).all (·.1.isSome) = true := by rfl) (hks : (backToKw pos (keywordEach kws X.env)).filterMap (·.1) = ks := by rfl)
    (hdb : (x == ("__debug__" : Str)) = false := by decide) (he : starEach (e :: es) X.env = (false, eval e X.env) :: starEach es X.env := by rfl)
    (hpl : ((backTo pos (starEach (e :: es) X.env)).any (·.1) || (backToKw pos (keywordEach kws X.env)).any (·.1.isNone)) = false := by rfl) (hcm : X.calm = true := by rfl) :
    DM X (mCallK gg as fas fks) (.Call (.Name x p) (e :: es) kws pos) := by
  obtain ⟨f, fd, ps, hps, hF, hmg, hk, hB⟩ := F.ex
  obtain ⟨g, hb⟩ := (hB _ hw).ex
  rw [← kg_calm hcm] at hF
  refine PE.imp (pe_callGN (E := fun _ _ _ => False) hF hr hg hmg hk hb ha hkw hall hks hdb he hpl) fun σ H Q ⟨F', O, S, mm, S', r, hx, kk⟩ => ?_
  obtain ⟨os, S1, h1, h2⟩ := R.bind_ok hx
  obtain ⟨zs, S2, h3, h4⟩ := R.bind_ok h2
  refine ⟨F', O, S, os, S1, r, h1, fun vs H1 F1 O1 st1 r1 ro => ⟨F1, O1, S1, zs, S2, r1, h3, fun us H2 F2 O2 st2 r2 rz => ⟨?_, ?_, ?_⟩⟩⟩
  · rw [ovs_len ro]; exact hm S os S1 h1
  · rw [ovs_len rz, hkl]; exact hmk S1 zs S2 h3
  · exact call_core r2 (arO_rel hf (ro.mono st2.ff) rz) (by rw [arO_len (hm S os S1 h1) (hmk S1 zs S2 h3) hok, hnp]) h4 fun v H' F'' O' st r' rm => kk v H' F'' O' ((st1.trans st2).trans st) r' rm
end
@[simp] theorem mCallK_ap (g : List M → CR) (as : List Arr) (fas fks : FA) (S : SS) : mCallK g as fas fks S = (fas S).bind fun os S1 => (fks S1).bind fun zs S2 => callR g (arO as os zs) S2 := (rfl)
@[simp] theorem arO_nil (os zs : List Ov) : arO [] os zs = [] := (rfl)
@[simp] theorem arO_p (i : Nat) (as : List Arr) (os zs : List Ov) : arO (.p i :: as) os zs = os[i]?.toList ++ arO as os zs := (rfl)
@[simp] theorem arO_k (i : Nat) (as : List Arr) (os zs : List Ov) : arO (.k i :: as) os zs = zs[i]?.toList ++ arO as os zs := (rfl)
@[simp] theorem arO_c (i : Nat) (d : D) (as : List Arr) (os zs : List Ov) : arO (.c i d :: as) os zs = .d d :: arO as os zs := (rfl)
theorem toVD {K : PySem.W.Frag} {x qual : Str} {st : Stmt} {kws : List (Str × V)} {f : Addr} {fd : FuncData} (F : FunD K x qual (defArgs st) (defBody st) (defScope st) [] kws f fd) : FunV K x qual st f fd :=
  let ⟨oc, od, dV, kV, doc, pm, an, cdv, ct, osl, e, lk, hcd, _, _⟩ := F.ex
  ⟨⟨oc, od, dV, kV, doc, pm, an, cdv, ct, osl, e, lk, hcd⟩, F.kp⟩
theorem funD_mk {K : PySem.W.Frag} {x qual : Str} {st : Stmt} {kws : List (Str × V)} {f D : Addr} {oc : Value} {od an : Option Addr} {osl : Array (Option Value)} {doc pm cdv ct : Value} (l : K.lookup f = some ⟨oc, od, .func (PySem.W.fnOf x qual (defArgs st) (defBody st) (defScope st) .none (.ref D) doc pm an cdv ct), osl⟩)
    (c : PySem.W.codeIn K cdv qual = true) (k : PySem.W.keepIn K (.ref f) = true) (hq : ∀ q ∈ kws, ∃ u, PySem.W.nsIn K D q.1 = some (some u) ∧ RelV q.2 u) : FunD K x qual (defArgs st) (defBody st) (defScope st) [] kws f (PySem.W.fnOf x qual (defArgs st) (defBody st) (defScope st) .none (.ref D) doc pm an cdv ct) :=
  ⟨⟨oc, od, .none, .ref D, doc, pm, an, cdv, ct, osl, rfl, l, c, .inl ⟨rfl, rfl⟩, .inr ⟨D, rfl, hq⟩⟩, k⟩
theorem fnG_zero {P : Program} {w : World} {K : PySem.W.Frag} {mg : Str → Option Value} {base : Heap} {k np : Nat} {f : Addr} {fd : FuncData} {ps : List Str} {KK : KG} (hl : ps.length = np) : FnG P w K mg base k f fd ps (spD KK np fun _ => .no) := by
  refine ⟨fun vs H Q E ⟨_, _, _, _, _, h, _⟩ => h.trans hl.symm, fun A outer s H args us vs Q E _ _ _ _ h => ?_⟩
  obtain ⟨_, _, _, _, _, _, _, _, _, h, _⟩ := h
  cases h

noncomputable def dLt (a b : D) : Bool := PySem.W.dataLt a.py b.py
section
variable {X : Cx} {f : Value → Value → Sem Value}
end
/-! ### sorted(xs), xs a row of tuples -/
noncomputable def isT1 : D → Bool
  | .tup (_ :: _) => true
  | _ => false
noncomputable def sortOk (xs : List D) : Bool := D.pls xs && xs.all isT1 && (xs.all fun a => xs.all fun b => PySem.W.alike a.py b.py) && decide (D.deps xs ≤ 190) && decide (xs.length ≤ line)
noncomputable def leD' (a b : D) : Bool := !dLt b a
noncomputable def sortD : D → Option M
  | .lst xs => if sortOk xs = true then some (.lst (xs.mergeSort leD')) else none
  | _ => none
theorem pls_mem : ∀ {xs : List D}, D.pls xs = true → ∀ x ∈ xs, x.pl = true
  | y :: ys, h, x, hx => by
    have h : (D.pl y && D.pls ys) = true := h
    rw [Bool.and_eq_true] at h
    rcases List.mem_cons.mp hx with rfl | hx
    · exact h.1
    · exact pls_mem h.2 x hx
theorem deps_mem' : ∀ {xs : List D} {n : Nat}, D.deps xs ≤ n → ∀ x ∈ xs, x.dep ≤ n
  | y :: ys, n, h, x, hx => by
    have h : max y.dep (D.deps ys) ≤ n := h
    rcases List.mem_cons.mp hx with rfl | hx
    · omega
    · exact deps_mem' (by omega) x hx
section
variable {X : Cx} {pins : List (Addr × Obj)} {s : Shared} {σ : St} {H F : Hp}
theorem each_zip {K : KG} : ∀ {vs : List V} {us : List Value} {xs : List D}, Vals vs us → RepDs K F vs xs → PySem.W.EachIs (fun u (b : V × D) => RelV b.1 u ∧ RepD K F b.1 b.2) us (vs.zip xs)
  | _, _, _, .nil, .nil => .nil
  | _, _, _, .cons h r, .cons a q => .cons ⟨h, a⟩ (each_zip r q)
theorem each_out {K : KG} : ∀ {bs : List (V × D)} {out : List Value}, PySem.W.EachIs (fun u (b : V × D) => RelV b.1 u ∧ RepD K F b.1 b.2) out bs → Vals (bs.map (·.1)) out ∧ RepDs K F (bs.map (·.1)) (bs.map (·.2))
  | _, _, .nil => ⟨.nil, .nil⟩
  | _, _, .cons h r => by
    obtain ⟨a, b⟩ := each_out r
    exact ⟨.cons h.1 a, .cons h.2 b⟩
theorem zip_sndD {K : KG} : ∀ {vs : List V} {xs : List D}, RepDs K F vs xs → (vs.zip xs).map (·.2) = xs
  | _, _, .nil => rfl
  | _, _, .cons _ r => by rw [List.zip_cons_cons, List.map_cons, zip_sndD r]
end
theorem cd_sortD {X : Cx} (hu : X.A.units + 194 < cLine) : CallR X (.builtin "sorted") (semC (kg X) (on1 sortD)) := call1 fun pins s σ H F v x us m Q I r l wx e hw => by
  cases x with
  | lst xs =>
    have e : (if sortOk xs = true then some (M.lst (xs.mergeSort leD')) else none) = some m := e
    split at e
    · rename_i h
      cases e
      unfold sortOk at h
      rw [Bool.and_eq_true, Bool.and_eq_true, Bool.and_eq_true, Bool.and_eq_true] at h
      obtain ⟨⟨⟨⟨h1, h2⟩, h3⟩, h4⟩, h5⟩ := h
      have h4 := of_decide_eq_true h4
      have h5 := of_decide_eq_true h5
      obtain ⟨a, vs, rfl, hsq, rd⟩ := View.list l wx
      obtain ⟨u, rfl, rv0⟩ := vals1 r
      obtain rfl : u = Value.ref a := rv0
      obtain ⟨its, rv, hl, hz⟩ := I.list (.inl hsq)
      have ez := each_zip rv rd
      have hmem : ∀ b ∈ vs.zip xs, b.2 ∈ xs := fun b hb => (List.of_mem_zip hb).2
      have em : (vs.zip xs).map (fun b => b.2.py) = xs.map D.py := by
        rw [← zip_sndD rd, List.map_map, zip_sndD rd]; rfl
      have er : PySem.W.EachIs (fun u (b : V × D) => ∃ as, Reads s.heap u b.2.py as) its (vs.zip xs) := (PySem.W.each_mem ez).mono fun u b ⟨⟨q1, q2⟩, q3⟩ => (q2.dp l (pls_mem h1 _ (hmem b q3))).reads I _ _ _ q1
      refine PySem.W.sorted_data (R := fun u (b : V × D) => RelV b.1 u ∧ RepD (kg X) F b.1 b.2) (enc := fun b : V × D => b.2.py) hl.isList ez er ?_ ?_ ?_ ?_ fun out ho hE => ?_
      · rw [em]
        intro d hd d' hd'
        obtain ⟨x, hx, rfl⟩ := List.mem_map.mp hd
        obtain ⟨y, hy, rfl⟩ := List.mem_map.mp hd'
        exact List.all_eq_true.mp (List.all_eq_true.mp h3 x hx) y hy
      · rw [em]
        refine .inl fun d hd => ?_
        obtain ⟨x, hx, rfl⟩ := List.mem_map.mp hd
        have := List.all_eq_true.mp h2 x hx
        cases x with
        | tup ys =>
          cases ys with
          | nil => cases this
          | cons y ys => exact ⟨y.py, D.pys ys, rfl⟩
        | _ => cases this
      · rw [List.length_zip]
        have := rd.len
        rw [line_eq] at h5
        omega
      · intro b hb
        have hb := hmem b hb
        have d1 := D.py_dep b.2 (pls_mem h1 _ hb)
        have d2 := deps_mem' h4 _ hb
        rw [d1]
        omega
      · obtain ⟨k1, k2⟩ := each_out hE
        have es : ((vs.zip xs).mergeSort (PySem.W.dataLe false fun b : V × D => b.2.py)).map (·.2) = xs.mergeSort leD' := by
          have q := List.map_mergeSort (r := PySem.W.dataLe false fun b : V × D => b.2.py) (s := leD') (f := fun b : V × D => b.2) (l := vs.zip xs) (fun a _ b _ => rfl)
          rw [q, zip_sndD rd]
        rw [es] at k2
        obtain ⟨ep, he'⟩ := PyProof.Rows.sortedAll_at s.heap its out.toArray
        obtain ⟨vs2, hvs2⟩ : ∃ vs2, vs2 = ((vs.zip xs).mergeSort (PySem.W.dataLe false fun b : V × D => b.2.py)).map (·.1) := ⟨_, rfl⟩
        rw [← hvs2] at k1 k2
        have hlen : vs2.length ≤ sizeLine := by
          rw [k2.len, List.length_mergeSort, ← line_eq]; exact h5
        exact ⟨.ref _, upd H (s.heap.objs.size + 1) (.lst vs2), I.laid (t' := s.toks) (fun _ _ => PyProof.Rows.sortedAll_old) (Nat.le_succ _) ⟨hlen, out, ep, k1, he'⟩, rfl, hw.l _ _ vs2 rfl (I.hok.fresh (Nat.le_succ _)) k2⟩
    · cases e
  | _ => cases e
@[simp] theorem sortD_ap (xs : List D) : sortD (.lst xs) = if sortOk xs = true then some (.lst (xs.mergeSort leD')) else none := (rfl)
theorem hu194 {A : Around} {k : Nat} (h : RoomG k A) : A.units + 194 < cLine := by have := h.rm.un; omega
section
variable {X : Cx} {pins : List (Addr × Obj)} {s : Shared} {σ : St} {H F : Hp}
end
section
variable {X : Cx}
end
/-! ### x.f, x owned: x is kept as it stands from here on -/
noncomputable def eFldF (c f : Str) (fe : FE) : FE := fun S => (fe S).bind fun o S1 => match force o S1 with
  | some (d, S2) => (match fldD c f d with
    | some x => .ok (.d x) S2
    | none => .no)
  | none => .no
section
variable {X : Cx} {o : Expr} {pos : Pos}
theorem de_fldF {c f : Str} {fe : FE} (he : DE X fe o) (cl : ClF (kg X) c f) (hb : attributeBase o f X.env (eval o X.env) = eval o X.env := by rfl) : DE X (eFldF c f fe) (.Attribute o f pos) :=
  PE.imp (pe_fld he hb) fun σ H Q ⟨F, O, S, oo, S', r, hf, k⟩ => by
    obtain ⟨o1, S1, h1, h2⟩ := R.bind_ok hf
    refine ⟨F, O, S, o1, S1, r, h1, fun v H1 F1 O1 st1 r1 ro => ?_⟩
    cases ef : force o1 S1 with
    | none => rw [ef] at h2; cases h2
    | some p =>
      obtain ⟨d, S2⟩ := p
      rw [ef] at h2
      have h2 : (match fldD c f d with
        | some x => R.ok (Ov.d x) S2
        | none => R.no) = R.ok oo S' := h2
      obtain ⟨F2, O2, st2, r2, rd⟩ := force_ok r1 ro ef
      cases e : fldD c f d with
      | none => rw [e] at h2; cases h2
      | some x =>
        rw [e] at h2
        cases h2
        obtain ⟨a, C, dx, fs, u, hC, e1, hh, c1, c2, hl, rx⟩ := fldO_ok (o := .d d) r2 cl rd (show fldO c f (.d d) S' = some x from e)
        exact ⟨a, C, dx, fs, u, e1, hh, c1, c2, hl, k u H1 F2 O2 (st1.trans st2) r2 rx⟩
end
@[simp] theorem eFldF_ap (c f : Str) (fe : FE) (S : SS) : eFldF c f fe S = (fe S).bind fun o S1 => match force o S1 with
  | some (d, S2) => (match fldD c f d with
    | some x => .ok (.d x) S2
    | none => .no)
  | none => .no := (rfl)

section
variable {X : Cx} {e o i : Expr} {pos spos : Pos} {kp : Nat → Bool} {j : Nat} {f fi : FE} {g : FG}
end
/-! ### x.count(e) -/
section
variable {X : Cx} {o e : Expr} {apos cpos : Pos} {j : Nat} {f : FE}
variable {ci : M → Option Nat}
end
/-! ### max([..]), {} not in [texts] -/
section
variable {X : Cx}
end
section
open PySem.SeqAt MeetsSeq AutoSeq1
end
section
open PySem.SeqAt MeetsSeq AutoSeq1
variable {X : Cx}
end
/-- what is under one part of a slot's thing goes to the result -/
noncomputable def tkO (j k : Nat) (O : OW) : OW := fun a => match O a with
  | some (.s i, p) => if i = j ∧ p.head? = some k then some (.r, p.tail) else some (.s i, p)
  | x => x
theorem tkO_some {j k : Nat} {O : OW} {a : Addr} {q : Pl} (h : tkO j k O a = some q) : ∃ q', O a = some q' := by
  unfold tkO at h
  cases e : O a with
  | none => rw [e] at h; cases h
  | some z => exact ⟨z, rfl⟩
theorem tkO_stp {H F : Hp} {O : OW} {j k : Nat} : Stp H F O H F (tkO j k O) := ⟨Le.refl _, fun _ _ h _ => h, fun a z h => .inl (tkO_some h), fun a o h => .inl h, fun _ o h => ⟨o, h⟩⟩
theorem tkO_bs {H F : Hp} {O : OW} {j k : Nat} (b : Bs H F O) : Bs H F (tkO j k O) := ⟨b.fh, fun a q h => by
  obtain ⟨q', h'⟩ := tkO_some h
  exact b.fo a q' h'⟩
theorem tkO_in {O : OW} {j k : Nat} {a : Addr} {s : List Nat} (h : O a = some (.s j, [k] ++ s)) : tkO j k O a = some (.r, [] ++ s) := by
  unfold tkO
  rw [h]
  simp
theorem tkO_out {O : OW} {j k : Nat} {a : Addr} {z : Rt} {s : List Nat} (h : O a = some (z, s)) (hn : z = .s j → s.head? ≠ some k) : tkO j k O a = some (z, s) := by
  unfold tkO
  rw [h]
  cases z with
  | s i =>
    dsimp only
    rw [if_neg]
    rintro ⟨rfl, e⟩
    exact hn rfl e
  | r => rfl
theorem RepMs.drop {K : KG} {H F : Hp} {O : OW} {j kk : Nat} {b : Addr} : ∀ {ms : List M} {n i : Nat} {vs : List V}, RepMs K H F O (.s j, []) n vs ms → n + i = kk → vs[i]? = some (.ref b) → RepMs K H F (tkO j kk O) (.s j, []) n vs (ms.set i (.d .any))
  | [], n, i, vs, h, e, hv => by
    rw [show vs = [] from h] at hv
    simp at hv
  | m :: ms, n, 0, vs, h, e, hv => by
    obtain ⟨v, vs', rfl, h1, h2⟩ := h
    cases hv
    refine ⟨.ref b, vs', rfl, RepD.any b, ?_⟩
    have far : ∀ {ms : List M} {n' : Nat} {vs : List V}, n < n' → RepMs K H F O (.s j, []) n' vs ms → RepMs K H F (tkO j kk O) (.s j, []) n' vs ms := by
      intro ms
      induction ms with
      | nil => intro n' vs _ h; exact h
      | cons x ms ih =>
        intro n' vs hl h
        obtain ⟨v, vs', rfl, h1, h2⟩ := h
        refine ⟨v, vs', rfl, ?_, ih (by omega) h2⟩
        have h1 : RepM K H F O (.s j, [n'] ++ []) v x := h1
        exact RepM.rel (z' := .s j) (p1 := [n']) (Le.refl _) (fun a o s e1 e2 => ⟨e2, tkO_out e1 fun _ => by simp; omega⟩) h1
    exact far (Nat.lt_succ_self n) h2
  | m :: ms, n, i + 1, vs, h, e, hv => by
    obtain ⟨v, vs', rfl, h1, h2⟩ := h
    refine ⟨v, vs', rfl, ?_, RepMs.drop h2 (by omega) hv⟩
    have h1 : RepM K H F O (.s j, [n] ++ []) v m := h1
    exact RepM.rel (z' := .s j) (p1 := [n]) (Le.refl _) (fun a o s e1 e2 => ⟨e2, tkO_out e1 fun _ => by simp; omega⟩) h1
/-- x.f, whose list goes along; nothing is known of the field from there on -/
noncomputable def mMvF (j : Nat) (c f : Str) : FM := fun S => match kidAt j (ciF c f) S with
  | some (.lst xs) => .ok (.lst xs) (kidSet j (ciF c f) (.d .any) S)
  | _ => .no
section
variable {X : Cx} {e : Expr} {j : Nat} {c f : Str}
theorem dm_mvF (ho : PE X e (rdC (kg X) j (ciF c f))) : DM X (mMvF j c f) e := PE.imp ho fun σ H Q ⟨F, O, S, m, S', r, hf, k⟩ => by
  unfold mMvF at hf
  cases ek : kidAt j (ciF c f) S with
  | none => rw [ek] at hf; cases hf
  | some m1 =>
    rw [ek] at hf
    cases m1 with
    | lst xs =>
      cases hf
      obtain ⟨m0, kk, e1, e2, e3⟩ := kidAt_ok ek
      refine ⟨F, O, S, m0, kk, _, r, e1, e2, e3, fun v0 v hv hkv rm => ?_⟩
      obtain ⟨b, vs', ev, ob, hb, rb⟩ := id rm
      subst ev
      refine k (.ref b) H F (tkO j kk O) tkO_stp ?_ (RepM.rel (z := .s j) (p0 := [kk]) (s := []) (p1 := []) (Le.refl _) (fun a o s h1 h2 => ⟨h2, tkO_in h1⟩) rm)
      rw [kidSet_of e1 e2]
      refine ⟨tkO_bs r.bs, by rw [List.length_set]; exact r.len, fun i x h => ?_⟩
      rcases SS.at_set h with ⟨z1, z2⟩ | ⟨ne, h⟩
      · subst z1
        cases z2
        obtain ⟨w, hw, rm0⟩ := r.sl _ _ e1
        refine ⟨w, hw, ?_⟩
        rw [hv] at hw
        cases hw
        cases m0 with
        | ob c' ns ms =>
          obtain ⟨a, C, dx, vs, q1, ho, hC, hh, el, rs⟩ := rm0
          obtain ⟨a0, q0, h⟩ := hkv
          rw [q0] at q1
          cases q1
          have hv2 : vs[kk]? = some (.ref b) := by
            rcases h with ⟨vs', h1, h2⟩ | ⟨vs', h1, h2⟩ | ⟨C', dx', fs, h1, h2⟩ <;> rw [hh] at h1 <;> cases h1
            rw [List.map_snd_zip (by omega)] at h2
            exact h2
          exact ⟨a, C, dx, vs, q0, tkO_out ho (fun _ => by simp), hC, hh, el, RepMs.drop (n := 0) rs (Nat.zero_add _) hv2⟩
        | _ => cases e2
      · obtain ⟨w, hw, rm0⟩ := r.sl i x h
        refine ⟨w, hw, RepM.rel (z := .s i) (z' := .s i) (p0 := []) (p1 := []) (s := []) (Le.refl _) (fun a o s h1 h2 => ⟨h2, tkO_out h1 fun z => by cases z; exact absurd rfl ne⟩) rm0⟩
    | _ => cases hf
end
/-- o.m(e), e a new thing that is lent -/
noncomputable def mMth1 (c m : Str) (g : List M → CR) (fe : FE) (fm : FM) : FM := fun S => (fe S).bind fun o S1 => if obO c m o S1 = true then (fm S1).bind fun a S2 => (callR g [o, .j S2.length] (S2 ++ [some a])).bind fun r S3 => .ok r (S3.take S2.length) else .no
theorem Rp.push {K : KG} {H F : Hp} {O : OW} {σ : St} {S : SS} {v : V} {m : M} (r : Rp K H F O σ S) (rm : RepM K H F O (.r, []) v m) : Rp K H F (mvO .r (.s S.length) O) (σ ++ [some v]) (S ++ [some m]) := by
  have hlen := r.len
  refine ⟨mv_bs r.bs, by rw [List.length_append, List.length_append, hlen]; rfl, fun i mm hi => ?_⟩
  unfold SS.at at hi
  by_cases hlt : i < S.length
  · rw [List.getElem?_append_left hlt] at hi
    obtain ⟨w, hw, rw'⟩ := r.sl i mm hi
    refine ⟨w, by rw [List.getElem?_append_left (by rw [← hlen]; exact hlt)]; exact hw, mv_other rw' (fun z => by cases z) (fun z => ?_)⟩
    injection z with z
    exact absurd z (Nat.ne_of_lt hlt)
  · have : i = S.length := by
      cases e : (S ++ [some m])[i]? with
      | none => rw [e] at hi; cases hi
      | some z =>
        have := (List.getElem?_eq_some_iff.mp e).1
        rw [List.length_append, List.length_singleton] at this
        omega
    subst this
    rw [List.getElem?_append_right (Nat.le_refl _), Nat.sub_self] at hi
    cases hi
    exact ⟨v, by rw [hlen, List.getElem?_append_right (Nat.le_refl _), Nat.sub_self]; rfl, mv_rep rm⟩
theorem left_rep {K : KG} {H F : Hp} {O : OW} {n : Nat} {v : V} {m : M} (h : RepM K H F O (.r, []) v m) : RepM K H F (leftO n O) (.r, []) v m :=
  h.stay (Le.refl _) fun a o p e1 e2 => ⟨e2, by unfold leftO; rw [e1]⟩
section
variable {X : Cx} {o e : Expr} {c m : Str} {g : List M → CR} {fe : FE} {fm : FM} {n : Nat} {pos apos : Pos}
theorem mth1_rd {C : Addr} {σ : St} {H : Hp} {Q : VK} (hC : X.mg c = some (.ref C)) (h : rdM (kg X) (mMth1 c m g fe fm) σ H Q) : tMeth C m (spD (kg X) 2 g) [] (fun _ _ _ => False) (rdE (kg X) fe) (tCons (rdM (kg X) fm) tNil) σ H Q := by
  obtain ⟨F, O, S, mm, S', r, hf, k⟩ := h
  obtain ⟨o, S1, h1, h2⟩ := R.bind_ok hf
  refine ⟨F, O, S, o, S1, r, h1, fun v H1 F1 O1 st1 r1 ro => ?_⟩
  split at h2
  · rename_i hob
    obtain ⟨a, C', dx, fs, rfl, hc, ha, hl⟩ := obO_ok r1 ro hob
    have : clsOf X.mg c = some C' := hc
    rw [clsOf_ref hC] at this
    cases this
    obtain ⟨a1, S2, h3, h4⟩ := R.bind_ok h2
    obtain ⟨r0, S3, h5, h6⟩ := R.bind_ok h4
    cases h6
    refine ⟨a, dx, fs, rfl, ha, hl, F1, O1, S1, a1, S2, r1, h3, fun w H2 F2 O2 st2 r2 rm => ?_⟩
    show spD (kg X) 2 g [.ref a, w] H2 Q (fun _ _ _ => False)
    have hlen := r2.len
    have r3 := r2.push rm
    have ro3 : RepOvs (kg X) F2 (σ ++ [some w]) [.ref a, w] [o, .j S2.length] := by
      refine .cons ?_ (.cons ?_ .nil)
      · have ro2 := ro.mono st2.ff
        cases o with
        | d x => exact ro2
        | j i =>
          have z : σ[i]? = some (some (V.ref a)) := ro2
          show (σ ++ [some w])[i]? = some (some (V.ref a))
          rw [List.getElem?_append_left (List.getElem?_eq_some_iff.mp z).1]
          exact z
      · show (σ ++ [some w])[S2.length]? = some (some w)
        rw [hlen, List.getElem?_append_right (Nat.le_refl _), Nat.sub_self]
        rfl
    refine call_core r3 ro3 rfl h5 fun v H' F' O' st r' rm' => ?_
    obtain ⟨st4, r4⟩ := r'.leaveLast
    exact k v H' F' _ (((st1.trans st2).trans mv_stp).trans (st.trans st4)) (by rw [hlen]; exact r4) (left_rep rm')
  · cases h2
theorem dm_mth1 (he : DE X fe o) (F : FnM X.prog X.w X.K X.mg X.base n c m 2 g) (hr : RoomG n X.A) (ha : DM X fm e)
    (hst : starEach [e] X.env = (false, eval e X.env) :: starEach [] X.env := by rfl) (hpl : (backTo pos (starEach [] X.env)).any (·.1) = false := by rfl) {pl : Sem Bool}
    (ht : eval (.Call (.Attribute o m apos) [e] [] pos) X.env = (do
      let ov ← eval o X.env
      standAt apos.atName
      let (f, first) ← holding [ov] (getMethod ov m pl)
      callWith pos f first (backTo pos (starEach [e] X.env)) (backToKw pos (keywordEach [] X.env))) := by rfl) (hcm : X.calm = true := by rfl) : DM X (mMth1 c m g fe fm) (.Call (.Attribute o m apos) [e] [] pos) := by
  obtain ⟨C, f, fd, ps, hC, hc, hmt, hps, hF, hb⟩ := F.ex
  rw [← kg_calm hcm] at hF
  exact PE.imp (pe_methG (E := fun _ _ _ => False) he hc hmt hF hr hb (pa_cons ha pa_nil hst) hst hpl ht) fun σ H Q h => mth1_rd hC h
end
@[simp] theorem mMth1_ap (c m : Str) (g : List M → CR) (fe : FE) (fm : FM) (S : SS) : mMth1 c m g fe fm S = (fe S).bind fun o S1 => if obO c m o S1 = true then (fm S1).bind fun a S2 => (callR g [o, .j S2.length] (S2 ++ [some a])).bind fun r S3 => .ok r (S3.take S2.length) else .no := (rfl)
@[simp] theorem mMvF_ap (j : Nat) (c f : Str) (S : SS) : mMvF j c f S = match kidAt j (ciF c f) S with
  | some (.lst xs) => .ok (.lst xs) (kidSet j (ciF c f) (.d .any) S)
  | _ => .no := (rfl)
set_option maxHeartbeats 2000000
noncomputable def c_MOST_ITEMS : D := (.int 10)
noncomputable def c_MOST_WORTH : D := (.int 1000000000)
noncomputable def c_MOST_WEIGHT : D := (.int 40)
noncomputable def c_STEEP : D := (.int 10000000001)
noncomputable def c_MOST_TURNS : D := (.int 60)
noncomputable def b_is_whole (call : Str → List M → CR) : FS :=
  (sRet (vAnd (mBlt (on2 isiD) (aCons (eN 0) (aCons (eC (.ty "int")) aNil))) (vNot (mBlt (on2 isiD) (aCons (eN 0) (aCons (eC (.ty "bool")) aNil))))))
noncomputable def g_is_whole (call : Str → List M → CR) : List M → CR := runFn 1 1 (kpl [true]) (b_is_whole call)
noncomputable def b_is_from_to (call : Str → List M → CR) : FS :=
  (sRet (vAnd (mCall (call "is_whole") (aCons (eN 0) aNil)) (mChain leD leD (eN 1) (eN 0) (eN 2))))
noncomputable def g_is_from_to (call : Str → List M → CR) : List M → CR := runFn 3 3 (kpl [true, true, true]) (b_is_from_to call)
noncomputable def b_is_item (call : Str → List M → CR) : FS :=
  (sSeq (sIf (tOr' (tNot' (tM (mBlt (on2 isiD) (aCons (eN 0) (aCons (eC (.ty "tuple")) aNil))))) (tM (mBin neD (eM (mBlt (on1 lenD) (aCons (eN 0) aNil))) (eC (.int 3)))))
    (sRet (mE (eC (.bl false))))
    sNil)
  (sSeq (sAsg (eN 0) (gT 3 (gsCons (gN 2) (gsCons (gN 3) (gsCons (gN 4) gsNil)))))
  (sSeq (sIf (tAnd' (tM (mBin isnND (eN 2) (eC .non))) (tNot' (tM (mCall (call "is_from_to") (aCons (eN 2) (aCons (eC (.int 0)) (aCons (eM (mBin subD (eN 1) (eC (.int 1)))) aNil)))))))
    (sRet (mE (eC (.bl false))))
    sNil)
  (sRet (vAnd (mCall (call "is_from_to") (aCons (eN 3) (aCons (eC (.int 0)) (aCons (eC c_MOST_WORTH) aNil)))) (mCall (call "is_from_to") (aCons (eN 4) (aCons (eM (mNeg (eC c_MOST_WEIGHT))) (aCons (eC c_MOST_WEIGHT) aNil)))))))))
noncomputable def g_is_item (call : Str → List M → CR) : List M → CR := runFn 2 5 (kpl [true, true]) (b_is_item call)
-- look_at: line 27: Raise: raise BadItem(0)
-- look_at: line 30: Raise: raise BadItem(at)
noncomputable def b_look_at (call : Str → List M → CR) : FS :=
  (sSeq (sIf (tNot' (tM (mBlt (on2 isiD) (aCons (eN 0) (aCons (eC (.ty "list")) aNil)))))
    sNo
    sNil)
  (sFor (iEn (aCons (eN 0) aNil)) (gT 2 (gsCons (gN 1) (gsCons (gN 2) gsNil)))
    (sIf (tOr' (tM (mBin eqD (eN 1) (eC c_MOST_ITEMS))) (tNot' (tM (mCall (call "is_item") (aCons (eN 2) (aCons (eN 1) aNil))))))
    sNo
    sNil)))
noncomputable def g_look_at (call : Str → List M → CR) : List M → CR := runFn 1 3 (kpl [true]) (b_look_at call)
noncomputable def b_may_take (call : Str → List M → CR) : FS :=
  (sSeq (sSet 2 (mBin ixD (eM (mBin ixD (eN 0) (eM (mBlt (on1 lenD) (aCons (eN 1) aNil))))) (eC (.int 0))))
  (sRet (vOr (mBin isND (eN 2) (eC .non)) (mBin eqD (eM (mBin ixD (eN 1) (eN 2))) (eC (.str "1"))))))
noncomputable def g_may_take (call : Str → List M → CR) : List M → CR := runFn 2 3 (kpl [true, true]) (b_may_take call)
noncomputable def b_free_items (call : Str → List M → CR) : FS :=
  (sSeq (sSet 2 (mLst aNil))
  (sSeq (sFor (iEn (aCons (eN 0) aNil)) (gT 2 (gsCons (gN 3) (gsCons (gT 3 (gsCons (gN 4) (gsCons (gN 5) (gsCons (gN 6) gsNil)))) gsNil)))
    (sIf (tM (mBin ltD (eN 3) (eM (mBlt (on1 lenD) (aCons (eN 1) aNil)))))
    (sExpr (mApp 2 (eC (.bl false))))
    (sIf (tM (mBin isND (eN 4) (eC .non)))
    (sExpr (mApp 2 (eC (.bl true))))
    (sIf (tM (mBin ltD (eN 4) (eM (mBlt (on1 lenD) (aCons (eN 1) aNil)))))
    (sExpr (mApp 2 (eM (mBin eqD (eM (mBin ixD (eN 1) (eN 4))) (eC (.str "1"))))))
    (sExpr (mApp 2 (eM (mBin ixD (eN 2) (eN 4)))))))))
  (sRetV 2)))
noncomputable def g_free_items (call : Str → List M → CR) : List M → CR := runFn 2 7 (kpl [true, true]) (b_free_items call)
noncomputable def b_tops (call : Str → List M → CR) : FS :=
  (sSeq (sSet 4 (mCall (call "free_items") (aCons (eN 0) (aCons (eN 1) aNil))))
  (sSeq (sSet 5 (mLc [7] (iSeq (eN 0)) (gN 7) tTrue (eC (.int 0))))
  (sSeq (sFor (iDown (aCons (eM (mBin subD (eM (mBlt (on1 lenD) (aCons (eN 0) aNil))) (eC (.int 1)))) (aCons (eM (mNeg (eC (.int 1)))) (aCons (eM (mNeg (eC (.int 1)))) aNil)))) (gN 6)
    (sSeq (sAsg (eM (mBin ixD (eN 0) (eN 6))) (gT 3 (gsCons (gN 8) (gsCons (gN 9) (gsCons (gN 10) gsNil)))))
  (sSeq (sSetIx 5 (eM (mBin mulD (eM (mBlt (on2 maxD) (aCons (eC (.int 0)) (aCons (eM (mBin subD (eM (mBin addD (eM (mBin ixD (eN 5) (eN 6))) (eM (mBin mulD (eN 3) (eN 9))))) (eM (mBin mulD (eN 2) (eN 10))))) aNil)))) (eM (mBlt (on1 intD) (aCons (eM (mBin ixD (eN 4) (eN 6))) aNil))))) (eN 6))
  (sIf (tAnd' (tM (mBin ixD (eN 4) (eN 6))) (tAnd' (tM (mBin isnND (eN 8) (eC .non))) (tM (mBin geD (eN 8) (eM (mBlt (on1 lenD) (aCons (eN 1) aNil)))))))
    (sAugIx 5 iaddD (eN 8) (eM (mBin ixD (eN 5) (eN 6))))
    sNil))))
  (sRetV 5))))
noncomputable def g_tops (call : Str → List M → CR) : List M → CR := runFn 4 11 (kpl [true, true, true, true]) (b_tops call)
noncomputable def b_bound_of (call : Str → List M → CR) : FS :=
  (sSeq (sAsg (eN 2) (gT 3 (gsCons (gN 5) (gsCons (gN 6) (gsCons (gN 7) gsNil)))))
  (sSeq (sSet 3 (mLc [8, 11] (iEnA (aCons (eN 5) aNil)) (gT 2 (gsCons (gN 8) (gsCons (gN 11) gsNil))) (tM (mBin eqD (eN 11) (eC (.str "1")))) (eM (mBin ixD (eN 0) (eN 8)))))
  (sSeq (sSet 4 (mBin mulD (eN 7) (eM (mBlt (on1 sumD) (aCons (eM (mLc [10, 12, 13] (iSeq (eN 3)) (gT 3 (gsCons (gN 10) (gsCons (gN 12) (gsCons (gN 13) gsNil)))) tTrue (eN 12))) aNil)))))
  (sSeq (sAug 4 iaddD (eM (mBin mulD (eN 6) (eM (mBin subD (eN 1) (eM (mBlt (on1 sumD) (aCons (eM (mLc [10, 12, 13] (iSeq (eN 3)) (gT 3 (gsCons (gN 10) (gsCons (gN 12) (gsCons (gN 13) gsNil)))) tTrue (eN 13))) aNil))))))))
  (sSeq (sFor (iEn (aCons (eM (mCall (call "tops") (aCons (eN 0) (aCons (eN 5) (aCons (eN 6) (aCons (eN 7) aNil)))))) aNil)) (gT 2 (gsCons (gN 8) (gsCons (gN 9) gsNil)))
    (sSeq (sSet 10 (mBin ixD (eM (mBin ixD (eN 0) (eN 8))) (eC (.int 0))))
  (sIf (tOr' (tM (mBin isND (eN 10) (eC .non))) (tM (mBin ltD (eN 10) (eM (mBlt (on1 lenD) (aCons (eN 5) aNil))))))
    (sAug 4 iaddD (eN 9))
    sNil)))
  (sRetV 4))))))
noncomputable def g_bound_of (call : Str → List M → CR) : List M → CR := runFn 3 14 (kpl [true, true, true]) (b_bound_of call)
noncomputable def b_closes (call : Str → List M → CR) : FS :=
  (sRet (mBin ltD (eM (mCall (call "bound_of") (aCons (eN 0) (aCons (eN 1) (aCons (eN 3) aNil))))) (eM (mBin mulD (eM (mBin ixD (eN 3) (eC (.int 2)))) (eM (mBin addD (eN 2) (eC (.int 1))))))))
noncomputable def g_closes (call : Str → List M → CR) : List M → CR := runFn 4 4 (kpl [true, true, true, true]) (b_closes call)
noncomputable def b_taking_at (call : Str → List M → CR) : FS :=
  (sSeq (sSet 4 (mCall (call "free_items") (aCons (eN 0) (aCons (eN 1) aNil))))
  (sSeq (sSet 5 (mCall (call "tops") (aCons (eN 0) (aCons (eN 1) (aCons (eN 2) (aCons (eN 3) aNil))))))
  (sSeq (sSet 6 (mLst aNil))
  (sSeq (sFor (iEn (aCons (eN 0) aNil)) (gT 2 (gsCons (gN 7) (gsCons (gT 3 (gsCons (gN 8) (gsCons (gN 9) (gsCons (gN 10) gsNil)))) gsNil)))
    (sSeq (sIf (tM (mBin ltD (eN 7) (eM (mBlt (on1 lenD) (aCons (eN 1) aNil)))))
    (sSet 11 (mBin eqD (eM (mBin ixD (eN 1) (eN 7))) (eC (.str "1"))))
    (sSet 11 (vAnd (mBin ixD (eN 4) (eN 7)) (vAnd (mBin gtD (eM (mBin ixD (eN 5) (eN 7))) (eC (.int 0))) (vOr (mBin isND (eN 8) (eC .non)) (mBin inD (eN 8) (eN 6)))))))
  (sIf (tM (mE (eN 11)))
    (sExpr (mApp 6 (eN 7)))
    sNil)))
  (sRetV 6)))))
noncomputable def g_taking_at (call : Str → List M → CR) : List M → CR := runFn 4 12 (kpl [true, true, true, true]) (b_taking_at call)
noncomputable def b_line_of (call : Str → List M → CR) : FS :=
  (sRet (mTup (aCons (eM (mBlt (on1 sumD) (aCons (eM (mPeek (mLc [3] (iSeq (eN 2)) (gN 3) tTrue (eM (mBin ixD (eM (mBin ixD (eN 0) (eN 3))) (eC (.int 1))))))) aNil))) (aCons (eM (mBin subD (eN 1) (eM (mBlt (on1 sumD) (aCons (eM (mPeek (mLc [3] (iSeq (eN 2)) (gN 3) tTrue (eM (mBin ixD (eM (mBin ixD (eN 0) (eN 3))) (eC (.int 2))))))) aNil))))) aNil))))
noncomputable def g_line_of (call : Str → List M → CR) : List M → CR := runFn 3 4 (kpl [true, true, true]) (b_line_of call)
noncomputable def b_best (call : Str → List M → CR) : FS :=
  (sSeq (sExpr (mCall (call "look_at") (aCons (eN 0) aNil)))
  (sSeq (sSet 2 (mMake "Search" (call "Search") (aCons (eN 0) (aCons (eN 1) aNil))))
  (sSeq (sSet 3 (mLst (aCons (eC (.str "")) aNil)))
  (sSeq (sWhile (tM (mBin neD (eN 3) (eM (mLst aNil))))
    (sSeq (sSet 4 (mPop 3))
  (sIf (tNot' (tM (mMth "Search" "is_closed" (call "Search.is_closed") (eN 2) (aCons (eN 4) aNil))))
    (sSeq (sExpr (mApp 3 (eM (mBin addD (eN 4) (eC (.str "0"))))))
  (sIf (tM (mCall (call "may_take") (aCons (eN 0) (aCons (eN 4) aNil))))
    (sExpr (mApp 3 (eM (mBin addD (eN 4) (eC (.str "1"))))))
    sNil))
    sNil)))
  (sRet (mBox (amCons (mE (eFld "Search" "worth" (eN 2))) (amCons (mMvF 2 "Search" "held") (amCons (mBlt (on1 sortD) (aCons (eFldF "Search" "leaves" (eN 2)) aNil)) amNil)))))))))
noncomputable def g_best (call : Str → List M → CR) : List M → CR := runFn 2 5 (kpl [true, true]) (b_best call)
noncomputable def b__law_items (call : Str → List M → CR) : FS :=
  (sSeq (sSet 2 (mCall (call "_law_take") (aCons (eN 0) (aCons (eC (.int 4)) aNil))))
  (sSeq (sSet 3 (mLst aNil))
  (sSeq (sFor (iRng1 (eN 1)) (gN 4)
    (sSeq (sSet 5 (mBin ixD (eM (mLst (aCons (eC .non) (aCons (eM (mBin subD (eN 4) (eC (.int 1)))) (aCons (eM (mBin subD (eM (mCall (call "_law_take") (aCons (eN 0) (aCons (eM (mBin addD (eN 4) (eC (.int 1)))) aNil)))) (eC (.int 1)))) aNil))))) (eM (mCall (call "_law_take") (aCons (eN 0) (aCons (eC (.int 3)) aNil))))))
  (sSeq (sIf (tAnd' (tM (mBin isnND (eN 5) (eC .non))) (tM (mBin ltD (eN 5) (eC (.int 0)))))
    (sSet 5 (mE (eC .non)))
    sNil)
  (sSeq (sSet 6 (mBin ixD (eM (mLst (aCons (eM (mCall (call "_law_take") (aCons (eN 0) (aCons (eC (.int 4)) aNil)))) (aCons (eM (mCall (call "_law_take") (aCons (eN 0) (aCons (eC (.int 30)) aNil)))) (aCons (eM (mCall (call "_law_take") (aCons (eN 0) (aCons (eM (mBin addD (eM (mBin powD (eC (.int 10)) (eC (.int 9)))) (eC (.int 1)))) aNil)))) (aCons (eC (.int 7)) aNil)))))) (eN 2)))
  (sSeq (sSet 7 (mBin modD (eM (mBin addD (eN 2) (eM (mCall (call "_law_take") (aCons (eN 0) (aCons (eC (.int 2)) aNil)))))) (eC (.int 4))))
  (sSeq (sSet 8 (mBin ixD (eM (mLst (aCons (eM (mBin subD (eM (mCall (call "_law_take") (aCons (eN 0) (aCons (eC (.int 10)) aNil)))) (eC (.int 2)))) (aCons (eM (mBin addD (eC (.int 1)) (eM (mCall (call "_law_take") (aCons (eN 0) (aCons (eC (.int 40)) aNil)))))) (aCons (eM (mBin subD (eM (mCall (call "_law_take") (aCons (eN 0) (aCons (eC (.int 81)) aNil)))) (eC (.int 40)))) (aCons (eC (.int 5)) aNil)))))) (eN 7)))
  (sExpr (mApp 3 (eM (mTup (aCons (eN 5) (aCons (eN 6) (aCons (eN 8) aNil)))))))))))))
  (sRetV 3))))
noncomputable def g__law_items (call : Str → List M → CR) : List M → CR := runFn 2 9 (kpl [true, true]) (b__law_items call)
noncomputable def b__law_room (call : Str → List M → CR) : FS :=
  (sRet (mBin ixD (eM (mLst (aCons (eM (mCall (call "_law_take") (aCons (eN 0) (aCons (eC (.int 30)) aNil)))) (aCons (eM (mCall (call "_law_take") (aCons (eN 0) (aCons (eC (.int 1001)) aNil)))) (aCons (eC (.int 0)) (aCons (eC (.int 60)) aNil)))))) (eM (mCall (call "_law_take") (aCons (eN 0) (aCons (eC (.int 4)) aNil))))))
noncomputable def g__law_room (call : Str → List M → CR) : List M → CR := runFn 1 1 (kpl [true]) (b__law_room call)
noncomputable def b__law_takings (call : Str → List M → CR) : FS :=
  (sSeq (sSet 1 (mLst (aCons (eM (mLst aNil)) aNil)))
  (sSeq (sFor (iRng1 (eM (mBlt (on1 lenD) (aCons (eN 0) aNil)))) (gN 2)
    (sSeq (sSet 3 (mBin ixD (eM (mBin ixD (eN 0) (eN 2))) (eC (.int 0))))
  (sSet 1 (mBin addD (eN 1) (eM (mLc [4] (iSeq (eN 1)) (gN 4) (tOr' (tM (mBin isND (eN 3) (eC .non))) (tM (mBin inD (eN 3) (eN 4)))) (eM (mBin addD (eN 4) (eM (mLst (aCons (eN 2) aNil)))))))))))
  (sRetV 1)))
noncomputable def g__law_takings (call : Str → List M → CR) : List M → CR := runFn 1 5 (kpl [true]) (b__law_takings call)
noncomputable def b__law_due (call : Str → List M → CR) : FS :=
  (sSeq (sSet 2 (mNeg (eC (.int 1))))
  (sSeq (sSet 3 (mDk [] aNil))
  (sSeq (sFor (iSeq (eM (mCall (call "_law_takings") (aCons (eN 0) aNil)))) (gN 4)
    (sIf (tM (mBin leD (eM (mBlt (on1 sumD) (aCons (eM (mLc [6] (iSeq (eN 4)) (gN 6) tTrue (eM (mBin ixD (eM (mBin ixD (eN 0) (eN 6))) (eC (.int 2)))))) aNil))) (eN 1)))
    (sSeq (sSet 5 (mBlt (on1 sumD) (aCons (eM (mLc [6] (iSeq (eN 4)) (gN 6) tTrue (eM (mBin ixD (eM (mBin ixD (eN 0) (eN 6))) (eC (.int 1)))))) aNil)))
  (sSeq (sIf (tM (mBin gtD (eN 5) (eN 2)))
    (sSeq (sSet 2 (mE (eN 5)))
  (sSet 3 (mDk [] aNil)))
    sNil)
  (sIf (tM (mBin eqD (eN 5) (eN 2)))
    (sDSet 3 (eC (.bl true)) (eM (mBlt (on1 reprD) (aCons (eN 4) aNil))))
    sNil)))
    sNil))
  (sRet (mTup (aCons (eN 2) (aCons (eN 3) aNil)))))))
noncomputable def g__law_due (call : Str → List M → CR) : List M → CR := runFn 2 7 (kpl [true, true]) (b__law_due call)
noncomputable def b_law (call : Str → List M → CR) : FS :=
  (sSeq (sSet 1 (mCall (call "_law_bag") (aCons (eN 0) aNil)))
  (sSeq (sSet 2 (mLst aNil))
  (sSeq (sFor (iRng1 (eC (.int 3))) (gN 3)
    (sSeq (sSet 4 (mE (eM (mCall (call "_law_items") (aCons (eN 1) (aCons (eM (mBin ixD (eM (mLst (aCons (eM (mCall (call "_law_take") (aCons (eN 1) (aCons (eC (.int 9)) aNil)))) (aCons (eM (mBin ixD (eM (mLst (aCons (eC (.int 6)) (aCons (eC (.int 10)) aNil)))) (eM (mCall (call "_law_take") (aCons (eN 1) (aCons (eC (.int 2)) aNil)))))) aNil)))) (eM (mCall (call "_law_take") (aCons (eN 1) (aCons (eC (.int 2)) aNil)))))) aNil))))))
  (sSeq (sSet 5 (mCall (call "_law_room") (aCons (eN 1) aNil)))
  (sExpr (mApp 2 (eM (mTup (aCons (eN 4) (aCons (eN 5) (aCons (eM (mCall (call "_law_due") (aCons (eN 4) (aCons (eN 5) aNil)))) aNil))))))))))
  (sSeq (sFor (iSeq (eM (mBin addD (eN 2) (eM (mSl (eN 2) pNo (pIx (eC (.int 1)))))))) (gT 3 (gsCons (gN 4) (gsCons (gN 5) (gsCons (gN 6) gsNil))))
    (sSeq (sSet 7 (mE (eM (mBlt (on1 listD) (aCons (eN 4) aNil)))))
  (sSeq (sSet 8 (mCallK (call "best") [.p 0, .k 0] (aCons (eN 7) aNil) (aCons (eN 5) aNil)))
  (sSeq (sIf (tAnd' (tM (mBin eqD (eN 5) (eC (.int 60)))) (tM (mBin gtD (eM (mBlt (on1 lenD) (aCons (eN 4) aNil))) (eC (.int 2)))))
    (sSet 8 (mCallK (call "best") [.p 0, .c 0 (.int 60)] (aCons (eN 7) aNil) aNil))
    sNil)
  (sSeq (sIf (tPeek (tOr' (tM (mBin neD (eM (mBin ixD (eN 8) (eC (.int 0)))) (eM (mBin ixD (eN 6) (eC (.int 0)))))) (tOr' (tM (mBlt (on2 isiD) (aCons (eM (mBin ixD (eN 8) (eC (.int 0)))) (aCons (eC (.ty "bool")) aNil)))) (tOr' (tM (mBin dninD (eM (mBlt (on1 reprD) (aCons (eM (mBin ixD (eN 8) (eC (.int 1)))) aNil))) (eM (mBin ixD (eN 6) (eC (.int 1)))))) (tM (mBin neD (eN 7) (eN 4)))))))
    (sRet (mE (eC (.bl false))))
    sNil)
  (sSeq (sExpr (mAppC 8 (ciI 1) (eC (.int 0))))
  (sExpr (mClrC 8 (ciI 2)))))))))
  (sRet (mE (eC (.bl true))))))))
noncomputable def g_law (call : Str → List M → CR) : List M → CR := runFn 1 9 (kpl [true]) (b_law call)
noncomputable def b_Search____init__ (call : Str → List M → CR) : FS :=
  (sSeq (sSetF 0 "Search" "rows" (mE (eN 1)))
  (sSeq (sSetF 0 "Search" "room" (mE (eN 2)))
  (sSeq (sSetF 0 "Search" "worth" (mE (eC (.int 0))))
  (sSeq (sSetF 0 "Search" "held" (mLst aNil))
  (sSetF 0 "Search" "leaves" (mLst aNil))))))
noncomputable def g_Search____init__ (call : Str → List M → CR) : List M → CR := runFn 3 3 (kpl [true, true, true]) (b_Search____init__ call)
noncomputable def b_Search__note (call : Str → List M → CR) : FS :=
  (sSeq (sAsg (eM (mCall (call "line_of") (aCons (eFld "Search" "rows" (eN 0)) (aCons (eFld "Search" "room" (eN 0)) (aCons (eN 1) aNil))))) (gT 2 (gsCons (gN 2) (gsCons (gN 3) gsNil))))
  (sSeq (sIf (tAnd' (tM (mBin geD (eN 3) (eC (.int 0)))) (tM (mBin gtD (eN 2) (eFld "Search" "worth" (eN 0)))))
    (sSeq (sSetF 0 "Search" "worth" (mE (eN 2)))
  (sSetF 0 "Search" "held" (mMv 1)))
    sNil)
  (sRet (mTup (aCons (eN 2) (aCons (eN 3) aNil))))))
noncomputable def g_Search__note (call : Str → List M → CR) : List M → CR := runFn 2 4 (kpl [true, true]) (b_Search__note call)
noncomputable def b_Search__try_rate (call : Str → List M → CR) : FS :=
  (sSeq (sSet 4 (mMth1 "Search" "note" (call "Search.note") (eN 0) (mCall (call "taking_at") (aCons (eFld "Search" "rows" (eN 0)) (aCons (eN 1) (aCons (eN 2) (aCons (eN 3) aNil)))))))
  (sSeq (sSet 5 (mTup (aCons (eN 1) (aCons (eN 2) (aCons (eN 3) aNil)))))
  (sSeq (sIf (tM (mCall (call "closes") (aCons (eFld "Search" "rows" (eN 0)) (aCons (eFld "Search" "room" (eN 0)) (aCons (eFld "Search" "worth" (eN 0)) (aCons (eN 5) aNil))))))
    (sSeq (sExpr (mAppC 0 (ciF "Search" "leaves") (eN 5)))
  (sRet (mTup (aCons (eN 4) (aCons (eC (.bl true)) aNil)))))
    sNil)
  (sRet (mTup (aCons (eN 4) (aCons (eC (.bl false)) aNil)))))))
noncomputable def g_Search__try_rate (call : Str → List M → CR) : List M → CR := runFn 4 6 (kpl [true, true, true, true]) (b_Search__try_rate call)
noncomputable def b_Search__is_closed (call : Str → List M → CR) : FS :=
  (sSeq (sAsg (eM (mMth "Search" "try_rate" (call "Search.try_rate") (eN 0) (aCons (eN 1) (aCons (eC (.int 0)) (aCons (eC (.int 1)) aNil))))) (gT 2 (gsCons (gN 3) (gsCons (gN 4) gsNil))))
  (sSeq (sIf (tM (mE (eN 4)))
    (sRet (mE (eC (.bl true))))
    sNil)
  (sSeq (sAsg (eM (mMth "Search" "try_rate" (call "Search.try_rate") (eN 0) (aCons (eN 1) (aCons (eC c_STEEP) (aCons (eC (.int 1)) aNil))))) (gT 2 (gsCons (gN 5) (gsCons (gN 4) gsNil))))
  (sSeq (sFor (iRng1 (eC c_MOST_TURNS)) (gN 2)
    (sSeq (sIf (tOr' (tM (mE (eN 4))) (tOr' (tM (mBin leD (eM (mBin ixD (eN 3) (eC (.int 0)))) (eM (mBin ixD (eN 5) (eC (.int 0)))))) (tM (mBin leD (eM (mBin ixD (eN 5) (eC (.int 1)))) (eM (mBin ixD (eN 3) (eC (.int 1))))))))
    (sRetV 4)
    sNil)
  (sSeq (sPar 6 7 (aCons (eM (mBin subD (eM (mBin ixD (eN 3) (eC (.int 0)))) (eM (mBin ixD (eN 5) (eC (.int 0)))))) (aCons (eM (mBin subD (eM (mBin ixD (eN 5) (eC (.int 1)))) (eM (mBin ixD (eN 3) (eC (.int 1)))))) aNil)))
  (sSeq (sAsg (eM (mMth "Search" "try_rate" (call "Search.try_rate") (eN 0) (aCons (eN 1) (aCons (eN 6) (aCons (eN 7) aNil))))) (gT 2 (gsCons (gN 8) (gsCons (gN 4) gsNil))))
  (sSeq (sIf (tOr' (tM (mE (eN 4))) (tM (mBin leD (eM (mBin addD (eM (mBin mulD (eN 7) (eM (mBin ixD (eN 8) (eC (.int 0)))))) (eM (mBin mulD (eN 6) (eM (mBin ixD (eN 8) (eC (.int 1)))))))) (eM (mBin addD (eM (mBin mulD (eN 7) (eM (mBin ixD (eN 3) (eC (.int 0)))))) (eM (mBin mulD (eN 6) (eM (mBin ixD (eN 3) (eC (.int 1)))))))))))
    (sRetV 4)
    sNil)
  (sIf (tM (mBin ltD (eM (mBin ixD (eN 8) (eC (.int 1)))) (eC (.int 0))))
    (sSet 3 (mE (eN 8)))
    (sSet 5 (mE (eN 8)))))))))
  (sRetV 4)))))
noncomputable def g_Search__is_closed (call : Str → List M → CR) : List M → CR := runFn 2 9 (kpl [true, true]) (b_Search__is_closed call)
noncomputable def tbl (call : Str → List M → CR) (f : Str) : List M → CR :=
  if f = "is_whole" then g_is_whole call else if f = "is_from_to" then g_is_from_to call else if f = "is_item" then g_is_item call else if f = "look_at" then g_look_at call else if f = "may_take" then g_may_take call else if f = "free_items" then g_free_items call else if f = "tops" then g_tops call else if f = "bound_of" then g_bound_of call else if f = "closes" then g_closes call else if f = "taking_at" then g_taking_at call else if f = "line_of" then g_line_of call else if f = "best" then g_best call else if f = "_law_bag" then g__law_bag call else if f = "_law_take" then g__law_take call else if f = "_law_items" then g__law_items call else if f = "_law_room" then g__law_room call else if f = "_law_takings" then g__law_takings call else if f = "_law_due" then g__law_due call else if f = "law" then g_law call else if f = "Search.__init__" then g_Search____init__ call else if f = "Search.note" then g_Search__note call else if f = "Search.try_rate" then g_Search__try_rate call else if f = "Search.is_closed" then g_Search__is_closed call else if f = "Search" then call "Search.__init__" else fun _ => .no
noncomputable def den : Nat → Str → List M → CR
  | 0, _ => fun _ => .no
  | n + 1, f => tbl (den n) f
theorem den_is_whole (n : Nat) : den (n + 1) "is_whole" = g_is_whole (den n) := by (first | rfl | simp [den, tbl])
theorem den_is_from_to (n : Nat) : den (n + 1) "is_from_to" = g_is_from_to (den n) := by (first | rfl | simp [den, tbl])
theorem den_is_item (n : Nat) : den (n + 1) "is_item" = g_is_item (den n) := by (first | rfl | simp [den, tbl])
theorem den_look_at (n : Nat) : den (n + 1) "look_at" = g_look_at (den n) := by (first | rfl | simp [den, tbl])
theorem den_may_take (n : Nat) : den (n + 1) "may_take" = g_may_take (den n) := by (first | rfl | simp [den, tbl])
theorem den_free_items (n : Nat) : den (n + 1) "free_items" = g_free_items (den n) := by (first | rfl | simp [den, tbl])
theorem den_tops (n : Nat) : den (n + 1) "tops" = g_tops (den n) := by (first | rfl | simp [den, tbl])
theorem den_bound_of (n : Nat) : den (n + 1) "bound_of" = g_bound_of (den n) := by (first | rfl | simp [den, tbl])
theorem den_closes (n : Nat) : den (n + 1) "closes" = g_closes (den n) := by (first | rfl | simp [den, tbl])
theorem den_taking_at (n : Nat) : den (n + 1) "taking_at" = g_taking_at (den n) := by (first | rfl | simp [den, tbl])
theorem den_line_of (n : Nat) : den (n + 1) "line_of" = g_line_of (den n) := by (first | rfl | simp [den, tbl])
theorem den_best (n : Nat) : den (n + 1) "best" = g_best (den n) := by (first | rfl | simp [den, tbl])
theorem den__law_bag (n : Nat) : den (n + 1) "_law_bag" = g__law_bag (den n) := by (first | rfl | simp [den, tbl])
theorem den__law_take (n : Nat) : den (n + 1) "_law_take" = g__law_take (den n) := by (first | rfl | simp [den, tbl])
theorem den__law_items (n : Nat) : den (n + 1) "_law_items" = g__law_items (den n) := by (first | rfl | simp [den, tbl])
theorem den__law_room (n : Nat) : den (n + 1) "_law_room" = g__law_room (den n) := by (first | rfl | simp [den, tbl])
theorem den__law_takings (n : Nat) : den (n + 1) "_law_takings" = g__law_takings (den n) := by (first | rfl | simp [den, tbl])
theorem den__law_due (n : Nat) : den (n + 1) "_law_due" = g__law_due (den n) := by (first | rfl | simp [den, tbl])
theorem den_law (n : Nat) : den (n + 1) "law" = g_law (den n) := by (first | rfl | simp [den, tbl])
theorem den_Search____init__ (n : Nat) : den (n + 1) "Search.__init__" = g_Search____init__ (den n) := by (first | rfl | simp [den, tbl])
theorem den_Search__note (n : Nat) : den (n + 1) "Search.note" = g_Search__note (den n) := by (first | rfl | simp [den, tbl])
theorem den_Search__try_rate (n : Nat) : den (n + 1) "Search.try_rate" = g_Search__try_rate (den n) := by (first | rfl | simp [den, tbl])
theorem den_Search__is_closed (n : Nat) : den (n + 1) "Search.is_closed" = g_Search__is_closed (den n) := by (first | rfl | simp [den, tbl])
theorem den_Search (n : Nat) : den (n + 1) "Search" = den n "Search.__init__" := by (first | rfl | simp [den, tbl])
@[simp] theorem sn_0_0 : ¬("":Str)="0" ∧ ¬("":Str)="1" := by decide +kernel
@[simp] theorem sb_0_0 : (("":Str)=="0")=false ∧ (("":Str)=="1")=false := by decide +kernel
@[simp] theorem sn_1_0 : ¬("0":Str)="" ∧ ¬("0":Str)="1" := by decide +kernel
@[simp] theorem sb_1_0 : (("0":Str)=="")=false ∧ (("0":Str)=="1")=false := by decide +kernel
@[simp] theorem sn_2_0 : ¬("1":Str)="" ∧ ¬("1":Str)="0" := by decide +kernel
@[simp] theorem sb_2_0 : (("1":Str)=="")=false ∧ (("1":Str)=="0")=false := by decide +kernel
noncomputable def topS (i : Nat) : Stmt := PySem.Challenge.pw_callmelt_k85_best_of_all_takings.main.body.getD i (.Pass ⟨0, 0, 0, 0⟩)
noncomputable abbrev s_is_whole : Stmt := topS 4
theorem sc_is_whole : FnScope ["thing"] ["thing"] (defScope s_is_whole) := ⟨rfl, rfl, rfl, by decide +kernel, rfl, by decide +kernel, by decide +kernel⟩
noncomputable abbrev s_is_from_to : Stmt := topS 5
theorem sc_is_from_to : FnScope ["thing", "least", "most"] ["thing", "least", "most"] (defScope s_is_from_to) := ⟨rfl, rfl, rfl, by decide +kernel, rfl, by decide +kernel, by decide +kernel⟩
noncomputable abbrev s_is_item : Stmt := topS 10
theorem sc_is_item : FnScope ["thing", "at", "above", "worth", "weight"] ["thing", "at"] (defScope s_is_item) := ⟨rfl, rfl, rfl, by decide +kernel, rfl, by decide +kernel, by decide +kernel⟩
noncomputable abbrev s_look_at : Stmt := topS 11
theorem sc_look_at : FnScope ["items", "at", "thing"] ["items"] (defScope s_look_at) := ⟨rfl, rfl, rfl, by decide +kernel, rfl, by decide +kernel, by decide +kernel⟩
noncomputable abbrev s_may_take : Stmt := topS 12
theorem sc_may_take : FnScope ["items", "decided", "above"] ["items", "decided"] (defScope s_may_take) := ⟨rfl, rfl, rfl, by decide +kernel, rfl, by decide +kernel, by decide +kernel⟩
noncomputable abbrev s_free_items : Stmt := topS 13
theorem sc_free_items : FnScope ["items", "decided", "found", "at", "above", "worth", "weight"] ["items", "decided"] (defScope s_free_items) := ⟨rfl, rfl, rfl, by decide +kernel, rfl, by decide +kernel, by decide +kernel⟩
noncomputable abbrev s_tops : Stmt := topS 14
theorem sc_tops : FnScope ["items", "decided", "p", "q", "free", "found", "at", "item", "above", "worth", "weight"] ["items", "decided", "p", "q"] (defScope s_tops) := ⟨rfl, rfl, rfl, by decide +kernel, rfl, by decide +kernel, by decide +kernel⟩
noncomputable abbrev s_bound_of : Stmt := topS 15
theorem sc_bound_of : FnScope ["items", "room", "leaf", "told", "total", "decided", "p", "q", "at", "top", "above", "sign", "worth", "weight"] ["items", "room", "leaf"] (defScope s_bound_of) := ⟨rfl, rfl, rfl, by decide +kernel, rfl, by decide +kernel, by decide +kernel⟩
noncomputable abbrev s_closes : Stmt := topS 16
theorem sc_closes : FnScope ["items", "room", "worth", "leaf"] ["items", "room", "worth", "leaf"] (defScope s_closes) := ⟨rfl, rfl, rfl, by decide +kernel, rfl, by decide +kernel, by decide +kernel⟩
noncomputable abbrev s_taking_at : Stmt := topS 21
theorem sc_taking_at : FnScope ["items", "decided", "p", "q", "free", "high", "taken", "at", "above", "worth", "weight", "is_in"] ["items", "decided", "p", "q"] (defScope s_taking_at) := ⟨rfl, rfl, rfl, by decide +kernel, rfl, by decide +kernel, by decide +kernel⟩
noncomputable abbrev s_line_of : Stmt := topS 22
theorem sc_line_of : FnScope ["items", "room", "taken", "at"] ["items", "room", "taken"] (defScope s_line_of) := ⟨rfl, rfl, rfl, by decide +kernel, rfl, by decide +kernel, by decide +kernel⟩
noncomputable abbrev s_best : Stmt := topS 24
theorem sc_best : FnScope ["items", "room", "search", "waiting", "decided"] ["items", "room"] (defScope s_best) := ⟨rfl, rfl, rfl, by decide +kernel, rfl, by decide +kernel, by decide +kernel⟩
noncomputable abbrev s__law_bag : Stmt := topS 26
theorem sc__law_bag : FnScope ["_law_script", "_law_cell"] ["_law_script"] (defScope s__law_bag) := ⟨rfl, rfl, rfl, by decide +kernel, rfl, by decide +kernel, by decide +kernel⟩
noncomputable abbrev s__law_take : Stmt := topS 27
theorem sc__law_take : FnScope ["_law_bag_here", "_law_many", "_law_first", "_law_second", "_law_cell", "_law_value"] ["_law_bag_here", "_law_many"] (defScope s__law_take) := ⟨rfl, rfl, rfl, by decide +kernel, rfl, by decide +kernel, by decide +kernel⟩
noncomputable abbrev s__law_items : Stmt := topS 28
theorem sc__law_items : FnScope ["_law_bag_here", "_law_many", "_law_way", "_law_items_here", "_law_at", "_law_above", "_law_worth", "_law_turn", "_law_weight"] ["_law_bag_here", "_law_many"] (defScope s__law_items) := ⟨rfl, rfl, rfl, by decide +kernel, rfl, by decide +kernel, by decide +kernel⟩
noncomputable abbrev s__law_room : Stmt := topS 29
theorem sc__law_room : FnScope ["_law_bag_here"] ["_law_bag_here"] (defScope s__law_room) := ⟨rfl, rfl, rfl, by decide +kernel, rfl, by decide +kernel, by decide +kernel⟩
noncomputable abbrev s__law_takings : Stmt := topS 30
theorem sc__law_takings : FnScope ["_law_items_here", "_law_found", "_law_at", "_law_above", "_law_some"] ["_law_items_here"] (defScope s__law_takings) := ⟨rfl, rfl, rfl, by decide +kernel, rfl, by decide +kernel, by decide +kernel⟩
noncomputable abbrev s__law_due : Stmt := topS 31
theorem sc__law_due : FnScope ["_law_items_here", "_law_wide", "_law_high", "_law_some", "_law_taking", "_law_worth", "_law_at"] ["_law_items_here", "_law_wide"] (defScope s__law_due) := ⟨rfl, rfl, rfl, by decide +kernel, rfl, by decide +kernel, by decide +kernel⟩
noncomputable abbrev s_law : Stmt := topS 32
theorem sc_law : FnScope ["_law_script", "_law_bag_here", "_law_rows", "_law_turn", "_law_items_here", "_law_wide", "_law_due_here", "_law_handed", "_law_told"] ["_law_script"] (defScope s_law) := ⟨rfl, rfl, rfl, by decide +kernel, rfl, by decide +kernel, by decide +kernel⟩
noncomputable abbrev s_Search____init__ : Stmt := inClass (topS 23) 0
theorem sc_Search____init__ : FnScope ["self", "items", "room"] ["self", "items", "room"] (defScope s_Search____init__) := ⟨rfl, rfl, rfl, by decide +kernel, rfl, by decide +kernel, by decide +kernel⟩
noncomputable abbrev s_Search__note : Stmt := inClass (topS 23) 1
theorem sc_Search__note : FnScope ["self", "taken", "worth", "left"] ["self", "taken"] (defScope s_Search__note) := ⟨rfl, rfl, rfl, by decide +kernel, rfl, by decide +kernel, by decide +kernel⟩
noncomputable abbrev s_Search__try_rate : Stmt := inClass (topS 23) 2
theorem sc_Search__try_rate : FnScope ["self", "decided", "p", "q", "line", "leaf"] ["self", "decided", "p", "q"] (defScope s_Search__try_rate) := ⟨rfl, rfl, rfl, by decide +kernel, rfl, by decide +kernel, by decide +kernel⟩
noncomputable abbrev s_Search__is_closed : Stmt := inClass (topS 23) 3
theorem sc_Search__is_closed : FnScope ["self", "decided", "turn", "low", "closed", "high", "p", "q", "line"] ["self", "decided"] (defScope s_Search__is_closed) := ⟨rfl, rfl, rfl, by decide +kernel, rfl, by decide +kernel, by decide +kernel⟩
structure Gs (w : World) (K : PySem.W.Frag) (mg : Str → Option Value) : Prop where
  n_abs : mg "abs" = none
  n_bool : mg "bool" = none
  n_enumerate : mg "enumerate" = none
  n_int : mg "int" = none
  n_isinstance : mg "isinstance" = none
  n_len : mg "len" = none
  n_list : mg "list" = none
  n_max : mg "max" = none
  n_range : mg "range" = none
  n_repr : mg "repr" = none
  n_sorted : mg "sorted" = none
  n_sum : mg "sum" = none
  n_tuple : mg "tuple" = none
  g_MOST_ITEMS : GlobD K mg "MOST_ITEMS" c_MOST_ITEMS
  g_MOST_WORTH : GlobD K mg "MOST_WORTH" c_MOST_WORTH
  g_MOST_WEIGHT : GlobD K mg "MOST_WEIGHT" c_MOST_WEIGHT
  g_STEEP : GlobD K mg "STEEP" c_STEEP
  g_MOST_TURNS : GlobD K mg "MOST_TURNS" c_MOST_TURNS
  a_Search_held : ClF (kg0 K mg) "Search" "held"
  a_Search_leaves : ClF (kg0 K mg) "Search" "leaves"
  a_Search_room : ClF (kg0 K mg) "Search" "room"
  a_Search_rows : ClF (kg0 K mg) "Search" "rows"
  a_Search_worth : ClF (kg0 K mg) "Search" "worth"
noncomputable abbrev ways_best : List (Nat × List Str × List Arr) := [(1, ["room"], [.p 0, .k 0]), (1, [], [.p 0, .c 0 (.int 60)])]
structure Cs (P : Program) (w : World) (K : PySem.W.Frag) (mg : Str → Option Value) (base : Heap) (n : Nat) (call : Str → List M → CR) : Prop where
  c_is_whole : FnD P w K mg base n "is_whole" 1 (call "is_whole")
  c_is_from_to : FnD P w K mg base n "is_from_to" 3 (call "is_from_to")
  c_is_item : FnD P w K mg base n "is_item" 2 (call "is_item")
  c_look_at : FnD P w K mg base n "look_at" 1 (call "look_at")
  c_may_take : FnD P w K mg base n "may_take" 2 (call "may_take")
  c_free_items : FnD P w K mg base n "free_items" 2 (call "free_items")
  c_tops : FnD P w K mg base n "tops" 4 (call "tops")
  c_bound_of : FnD P w K mg base n "bound_of" 3 (call "bound_of")
  c_closes : FnD P w K mg base n "closes" 4 (call "closes")
  c_taking_at : FnD P w K mg base n "taking_at" 4 (call "taking_at")
  c_line_of : FnD P w K mg base n "line_of" 3 (call "line_of")
  c_best : FnK P w K mg base n "best" 2 ways_best (call "best")
  c__law_bag : FnD P w K mg base n "_law_bag" 1 (call "_law_bag")
  c__law_take : FnD P w K mg base n "_law_take" 2 (call "_law_take")
  c__law_items : FnD P w K mg base n "_law_items" 2 (call "_law_items")
  c__law_room : FnD P w K mg base n "_law_room" 1 (call "_law_room")
  c__law_takings : FnD P w K mg base n "_law_takings" 1 (call "_law_takings")
  c__law_due : FnD P w K mg base n "_law_due" 2 (call "_law_due")
  c_law : FnD P w K mg base n "law" 1 (call "law")
  n_Search : FnN P w K mg base n "Search" 3 (call "Search.__init__")
  i_Search : FnI P w K mg base n "Search" 3 (call "Search")
  c_Search__note : FnM P w K mg base n "Search" "note" 2 (call "Search.note")
  c_Search__try_rate : FnM P w K mg base n "Search" "try_rate" 4 (call "Search.try_rate")
  c_Search__is_closed : FnM P w K mg base n "Search" "is_closed" 2 (call "Search.is_closed")
section
variable {P : Program} {w : World} {K : PySem.W.Frag} {mg : Str → Option Value} {base : Heap} {f : Addr} {fd : FuncData} {n : Nat} {call : Str → List M → CR}
theorem ok_is_whole (F : Fun K "is_whole" "is_whole" s_is_whole f fd) (G : Gs w K mg) (C : Cs P w K mg base n call) : FnG P w K mg base (n + 1) f fd ["thing"] (spD (kg0 K mg) 1 (g_is_whole call)) :=
  have SC := sc_is_whole
  fn_ok ["thing"] ["thing"] 1 1 (kpl [true]) (b_is_whole call) (g_is_whole call) rfl rfl rfl F SC fun cdv A outer s H E hr =>
  (dss_one (ds_ret (dm_and (dm_blt cd_isi (by rfl) G.n_isinstance (by decide +kernel) (da_cons (de_n (pv 0)) (da_cons (de_c (pe_bltn (by rfl) G.n_int (by decide +kernel) (show RelV (.ty "int") _ from rfl)) fun _ => .ty _) da_nil))) (dm_one (dm_not (dm_blt cd_isi (by rfl) G.n_isinstance (by decide +kernel) (da_cons (de_n (pv 0)) (da_cons (de_c (pe_bltn (by rfl) G.n_bool (by decide +kernel) (show RelV (.ty "bool") _ from rfl)) fun _ => .ty _) da_nil))))))))
theorem ok_is_from_to (F : Fun K "is_from_to" "is_from_to" s_is_from_to f fd) (G : Gs w K mg) (C : Cs P w K mg base n call) : FnG P w K mg base (n + 1) f fd ["thing", "least", "most"] (spD (kg0 K mg) 3 (g_is_from_to call)) :=
  have SC := sc_is_from_to
  fn_ok ["thing", "least", "most"] ["thing", "least", "most"] 3 3 (kpl [true, true, true]) (b_is_from_to call) (g_is_from_to call) rfl rfl rfl F SC fun cdv A outer s H E hr =>
  (dss_one (ds_ret (dm_and (dm_call C.c_is_whole hr (by rfl) (da_cons (de_n (pv 0)) da_nil) (many_cons many_nil)) (dm_one (dm_chain od_le od_le (de_n (pv 1)) (de_n (pv 0)) (de_n (pv 2)))))))
theorem ok_is_item (F : Fun K "is_item" "is_item" s_is_item f fd) (G : Gs w K mg) (C : Cs P w K mg base n call) : FnG P w K mg base (n + 1) f fd ["thing", "at"] (spD (kg0 K mg) 2 (g_is_item call)) :=
  have SC := sc_is_item
  fn_ok ["thing", "at", "above", "worth", "weight"] ["thing", "at"] 2 5 (kpl [true, true]) (b_is_item call) (g_is_item call) rfl rfl rfl F SC fun cdv A outer s H E hr =>
  (dss_cons (ds_if (dt_w (dw_or (dt_not (dt_val (dm_blt cd_isi (by rfl) G.n_isinstance (by decide +kernel) (da_cons (de_n (pv 0)) (da_cons (de_c (pe_bltn (by rfl) G.n_tuple (by decide +kernel) (show RelV (.ty "tuple") _ from rfl)) fun _ => .ty _) da_nil))))) (dw_or1 (dt_cmp (od_ne (Ev.hu192 hr)) (de_m (dm_blt cd_len (by rfl) G.n_len (by decide +kernel) (da_cons (de_n (pv 0)) da_nil))) de_int (nomark _)))))
    (dss_one (ds_ret (dm_e de_bl)))
    dss_nil)
  (dss_cons (ds_asg (de_n (pv 0)) (dg_t rfl (dgs_cons (dg_n rfl (pg_name (i := 2) SC.nd rfl (by first | exact .inl rfl | exact .inr rfl))) (dgs_cons (dg_n rfl (pg_name (i := 3) SC.nd rfl (by first | exact .inl rfl | exact .inr rfl))) (dgs_cons (dg_n rfl (pg_name (i := 4) SC.nd rfl (by first | exact .inl rfl | exact .inr rfl))) dgs_nil)))))
  (dss_cons (ds_if (dt_w (dw_and (dt_cmp od_isnN (de_n (pv 2)) de_non (nomark _)) (dw_and1 (dt_not (dt_val (dm_call C.c_is_from_to hr (by rfl) (da_cons (de_n (pv 2)) (da_cons de_int (da_cons (de_m (dm_bin od_sub (de_n (pv 1)) de_int)) da_nil))) (many_cons (many_cons (many_cons many_nil)))))))))
    (dss_one (ds_ret (dm_e de_bl)))
    dss_nil)
  (dss_one (ds_ret (dm_and (dm_call C.c_is_from_to hr (by rfl) (da_cons (de_n (pv 3)) (da_cons de_int (da_cons (de_g (by rfl) G.g_MOST_WORTH) da_nil))) (many_cons (many_cons (many_cons many_nil)))) (dm_one (dm_call C.c_is_from_to hr (by rfl) (da_cons (de_n (pv 4)) (da_cons (de_m (dm_neg (de_g (by rfl) G.g_MOST_WEIGHT))) (da_cons (de_g (by rfl) G.g_MOST_WEIGHT) da_nil))) (many_cons (many_cons (many_cons many_nil)))))))))))
theorem ok_look_at (F : Fun K "look_at" "look_at" s_look_at f fd) (G : Gs w K mg) (C : Cs P w K mg base n call) : FnG P w K mg base (n + 1) f fd ["items"] (spD (kg0 K mg) 1 (g_look_at call)) :=
  have SC := sc_look_at
  fn_ok ["items", "at", "thing"] ["items"] 1 3 (kpl [true]) (b_look_at call) (g_look_at call) rfl rfl rfl F SC fun cdv A outer s H E hr =>
  (dss_cons (ds_if (dt_not (dt_val (dm_blt cd_isi (by rfl) G.n_isinstance (by decide +kernel) (da_cons (de_n (pv 0)) (da_cons (de_c (pe_bltn (by rfl) G.n_list (by decide +kernel) (show RelV (.ty "list") _ from rfl)) fun _ => .ty _) da_nil)))))
    (dss_one ds_no)
    dss_nil)
  (dss_one (ds_for PassesOwn.never rfl (di_enum (by rfl) G.n_enumerate (da_cons (de_n (pv 0)) da_nil)) (dg_t rfl (dgs_cons (dg_n rfl (pg_name (i := 1) SC.nd rfl (by first | exact .inl rfl | exact .inr rfl))) (dgs_cons (dg_n rfl (pg_name (i := 2) SC.nd rfl (by first | exact .inl rfl | exact .inr rfl))) dgs_nil)))
    (dss_one (ds_if (dt_w (dw_or (dt_cmp (od_eq (Ev.hu192 hr)) (de_n (pv 1)) (de_g (by rfl) G.g_MOST_ITEMS) (nomark _)) (dw_or1 (dt_not (dt_val (dm_call C.c_is_item hr (by rfl) (da_cons (de_n (pv 2)) (da_cons (de_n (pv 1)) da_nil)) (many_cons (many_cons many_nil))))))))
    (dss_one ds_no)
    dss_nil)))))
theorem ok_may_take (F : Fun K "may_take" "may_take" s_may_take f fd) (G : Gs w K mg) (C : Cs P w K mg base n call) : FnG P w K mg base (n + 1) f fd ["items", "decided"] (spD (kg0 K mg) 2 (g_may_take call)) :=
  have SC := sc_may_take
  fn_ok ["items", "decided", "above"] ["items", "decided"] 2 3 (kpl [true, true]) (b_may_take call) (g_may_take call) rfl rfl rfl F SC fun cdv A outer s H E hr =>
  (dss_cons (ds_set (i := 2) SC.nd rfl (by first | exact .inl rfl | exact .inr rfl) rfl (dm_ix (de_m (dm_ix (de_n (pv 0)) (de_m (dm_blt cd_len (by rfl) G.n_len (by decide +kernel) (da_cons (de_n (pv 1)) da_nil))))) de_int))
  (dss_one (ds_ret (dm_or (dm_cmp od_isN (de_n (pv 2)) de_non (nomark _)) (dm_one (dm_cmp (od_eq (Ev.hu192 hr)) (de_m (dm_ix (de_n (pv 1)) (de_n (pv 2)))) de_str (nomark _)))))))
theorem ok_free_items (F : Fun K "free_items" "free_items" s_free_items f fd) (G : Gs w K mg) (C : Cs P w K mg base n call) : FnG P w K mg base (n + 1) f fd ["items", "decided"] (spD (kg0 K mg) 2 (g_free_items call)) :=
  have SC := sc_free_items
  fn_ok ["items", "decided", "found", "at", "above", "worth", "weight"] ["items", "decided"] 2 7 (kpl [true, true]) (b_free_items call) (g_free_items call) rfl rfl rfl F SC fun cdv A outer s H E hr =>
  (dss_cons (ds_set (i := 2) SC.nd rfl (by first | exact .inl rfl | exact .inr rfl) rfl (dm_lst da_nil))
  (dss_cons (ds_for PassesOwn.never rfl (di_enum (by rfl) G.n_enumerate (da_cons (de_n (pv 0)) da_nil)) (dg_t rfl (dgs_cons (dg_n rfl (pg_name (i := 3) SC.nd rfl (by first | exact .inl rfl | exact .inr rfl))) (dgs_cons (dg_t rfl (dgs_cons (dg_n rfl (pg_name (i := 4) SC.nd rfl (by first | exact .inl rfl | exact .inr rfl))) (dgs_cons (dg_n rfl (pg_name (i := 5) SC.nd rfl (by first | exact .inl rfl | exact .inr rfl))) (dgs_cons (dg_n rfl (pg_name (i := 6) SC.nd rfl (by first | exact .inl rfl | exact .inr rfl))) dgs_nil)))) dgs_nil)))
    (dss_one (ds_if (dt_cmp od_lt (de_n (pv 3)) (de_m (dm_blt cd_len (by rfl) G.n_len (by decide +kernel) (da_cons (de_n (pv 1)) da_nil))) (nomark _))
    (dss_one (ds_expr (dm_app (pv 2) de_bl)))
    (dss_one (ds_if (dt_cmp od_isN (de_n (pv 4)) de_non (nomark _))
    (dss_one (ds_expr (dm_app (pv 2) de_bl)))
    (dss_one (ds_if (dt_cmp od_lt (de_n (pv 4)) (de_m (dm_blt cd_len (by rfl) G.n_len (by decide +kernel) (da_cons (de_n (pv 1)) da_nil))) (nomark _))
    (dss_one (ds_expr (dm_app (pv 2) (de_m (dm_cmp (od_eq (Ev.hu192 hr)) (de_m (dm_ix (de_n (pv 1)) (de_n (pv 4)))) de_str (nomark _))))))
    (dss_one (ds_expr (dm_app (pv 2) (de_m (dm_ix (de_n (pv 2)) (de_n (pv 4))))))))))))))
  (dss_one (ds_retV (pv 2)))))
theorem ok_tops (F : Fun K "tops" "tops" s_tops f fd) (G : Gs w K mg) (C : Cs P w K mg base n call) : FnG P w K mg base (n + 1) f fd ["items", "decided", "p", "q"] (spD (kg0 K mg) 4 (g_tops call)) :=
  have SC := sc_tops
  fn_ok ["items", "decided", "p", "q", "free", "found", "at", "item", "above", "worth", "weight"] ["items", "decided", "p", "q"] 4 11 (kpl [true, true, true, true]) (b_tops call) (g_tops call) rfl rfl rfl F SC fun cdv A outer s H E hr =>
  (dss_cons (ds_set (i := 4) SC.nd rfl (by first | exact .inl rfl | exact .inr rfl) rfl (dm_call C.c_free_items hr (by rfl) (da_cons (de_n (pv 0)) (da_cons (de_n (pv 1)) da_nil)) (many_cons (many_cons many_nil))))
  (dss_cons (ds_setLc (i := 5) (own := [("item", 7)]) rfl SC.nd rfl rfl rfl (sw_true rfl rfl rfl (by decide +kernel)) (di_any (di_seq (de_n (pv 0)))) (blkOk_by (own := [("item", 7)]) (N := ["items", "decided", "p", "q", "free", "found", "at", "item", "above", "worth", "weight"]) (sc := defScope s_tops) (by decide +kernel)) (fun _ _ _ _ _ => (dg_n rfl (pg_name (i := 7) SC.nd rfl (by first | exact .inl rfl | exact .inr rfl)))) (fun _ _ _ _ _ => dts_nil) (fun _ _ _ _ _ => de_int))
  (dss_cons (ds_for PassesOwn.never rfl (di_any (di_down (by rfl) G.n_range (da_cons (de_m (dm_bin od_sub (de_m (dm_blt cd_len (by rfl) G.n_len (by decide +kernel) (da_cons (de_n (pv 0)) da_nil))) de_int)) (da_cons (de_m (dm_neg de_int)) (da_cons (de_m (dm_neg de_int)) da_nil))))) (dg_n rfl (pg_name (i := 6) SC.nd rfl (by first | exact .inl rfl | exact .inr rfl)))
    (dss_cons (ds_asg (de_m (dm_ix (de_n (pv 0)) (de_n (pv 6)))) (dg_t rfl (dgs_cons (dg_n rfl (pg_name (i := 8) SC.nd rfl (by first | exact .inl rfl | exact .inr rfl))) (dgs_cons (dg_n rfl (pg_name (i := 9) SC.nd rfl (by first | exact .inl rfl | exact .inr rfl))) (dgs_cons (dg_n rfl (pg_name (i := 10) SC.nd rfl (by first | exact .inl rfl | exact .inr rfl))) dgs_nil)))))
  (dss_cons (ds_setIx (de_m (dm_bin od_mul (de_m (dm_blt (cd_max rfl) (by rfl) G.n_max (by decide +kernel) (da_cons de_int (da_cons (de_m (dm_bin od_sub (de_m (dm_bin od_add (de_m (dm_ix (de_n (pv 5)) (de_n (pv 6)))) (de_m (dm_bin od_mul (de_n (pv 3)) (de_n (pv 9)))))) (de_m (dm_bin od_mul (de_n (pv 2)) (de_n (pv 10)))))) da_nil)))) (de_m (dm_bty cd_int (by rfl) G.n_int (by decide +kernel) (da_cons (de_m (dm_ix (de_n (pv 4)) (de_n (pv 6)))) da_nil))))) (pv 5) (de_n (pv 6)))
  (dss_one (ds_if (dt_w (dw_and (dt_val (dm_ix (de_n (pv 4)) (de_n (pv 6)))) (dw_and (dt_cmp od_isnN (de_n (pv 8)) de_non (nomark _)) (dw_and1 (dt_cmp od_ge (de_n (pv 8)) (de_m (dm_blt cd_len (by rfl) G.n_len (by decide +kernel) (da_cons (de_n (pv 1)) da_nil))) (nomark _))))))
    (dss_one (ds_augIx (pv 5) (de_n (pv 8)) (de_m (dm_ix (de_n (pv 5)) (de_n (pv 6)))) oi_add))
    dss_nil)))))
  (dss_one (ds_retV (pv 5))))))
theorem ok_bound_of (F : Fun K "bound_of" "bound_of" s_bound_of f fd) (G : Gs w K mg) (C : Cs P w K mg base n call) : FnG P w K mg base (n + 1) f fd ["items", "room", "leaf"] (spD (kg0 K mg) 3 (g_bound_of call)) :=
  have SC := sc_bound_of
  fn_ok ["items", "room", "leaf", "told", "total", "decided", "p", "q", "at", "top", "above", "sign", "worth", "weight"] ["items", "room", "leaf"] 3 14 (kpl [true, true, true]) (b_bound_of call) (g_bound_of call) rfl rfl rfl F SC fun cdv A outer s H E hr =>
  (dss_cons (ds_asg (de_n (pv 2)) (dg_t rfl (dgs_cons (dg_n rfl (pg_name (i := 5) SC.nd rfl (by first | exact .inl rfl | exact .inr rfl))) (dgs_cons (dg_n rfl (pg_name (i := 6) SC.nd rfl (by first | exact .inl rfl | exact .inr rfl))) (dgs_cons (dg_n rfl (pg_name (i := 7) SC.nd rfl (by first | exact .inl rfl | exact .inr rfl))) dgs_nil)))))
  (dss_cons (ds_setLc (i := 3) (own := [("at", 8), ("sign", 11)]) rfl SC.nd rfl rfl rfl (sw_true rfl rfl rfl (by decide +kernel)) (di_enumS (by rfl) G.n_enumerate (da_cons (de_n (pv 5)) da_nil)) (blkOk_by (own := [("at", 8), ("sign", 11)]) (N := ["items", "room", "leaf", "told", "total", "decided", "p", "q", "at", "top", "above", "sign", "worth", "weight"]) (sc := defScope s_bound_of) (by decide +kernel)) (fun _ _ _ _ _ => (dg_t rfl (dgs_cons (dg_n rfl (pg_name (i := 8) SC.nd rfl (by first | exact .inl rfl | exact .inr rfl))) (dgs_cons (dg_n rfl (pg_name (i := 11) SC.nd rfl (by first | exact .inl rfl | exact .inr rfl))) dgs_nil)))) (fun _ _ _ _ _ => (dts_one (dt_cmp (od_eq (Ev.hu192 hr)) (de_n (pv 11)) de_str (nomark _)))) (fun _ _ _ _ _ => (de_m (dm_ix (de_n (pv 0)) (de_n (pv 8))))))
  (dss_cons (ds_set (i := 4) SC.nd rfl (by first | exact .inl rfl | exact .inr rfl) rfl (dm_bin od_mul (de_n (pv 7)) (de_m (dm_blt (cd_sum rfl) (by rfl) G.n_sum (by decide +kernel) (da_cons (de_m (dm_lc (own := [("above", 10), ("worth", 12), ("weight", 13)]) rfl SC.nd (di_any (di_seq (de_n (pv 3)))) (blkOk_by (own := [("above", 10), ("worth", 12), ("weight", 13)]) (N := ["items", "room", "leaf", "told", "total", "decided", "p", "q", "at", "top", "above", "sign", "worth", "weight"]) (sc := defScope s_bound_of) (by decide +kernel)) (fun _ _ _ _ _ => (dg_t rfl (dgs_cons (dg_n rfl (pg_name (i := 10) SC.nd rfl (by first | exact .inl rfl | exact .inr rfl))) (dgs_cons (dg_n rfl (pg_name (i := 12) SC.nd rfl (by first | exact .inl rfl | exact .inr rfl))) (dgs_cons (dg_n rfl (pg_name (i := 13) SC.nd rfl (by first | exact .inl rfl | exact .inr rfl))) dgs_nil))))) (fun _ _ _ _ _ => dts_nil) (fun _ _ _ _ _ => (de_n (pv 12))))) da_nil)))))
  (dss_cons (ds_aug (i := 4) SC.nd rfl (by first | exact .inl rfl | exact .inr rfl) rfl (de_m (dm_bin od_mul (de_n (pv 6)) (de_m (dm_bin od_sub (de_n (pv 1)) (de_m (dm_blt (cd_sum rfl) (by rfl) G.n_sum (by decide +kernel) (da_cons (de_m (dm_lc (own := [("above", 10), ("worth", 12), ("weight", 13)]) rfl SC.nd (di_any (di_seq (de_n (pv 3)))) (blkOk_by (own := [("above", 10), ("worth", 12), ("weight", 13)]) (N := ["items", "room", "leaf", "told", "total", "decided", "p", "q", "at", "top", "above", "sign", "worth", "weight"]) (sc := defScope s_bound_of) (by decide +kernel)) (fun _ _ _ _ _ => (dg_t rfl (dgs_cons (dg_n rfl (pg_name (i := 10) SC.nd rfl (by first | exact .inl rfl | exact .inr rfl))) (dgs_cons (dg_n rfl (pg_name (i := 12) SC.nd rfl (by first | exact .inl rfl | exact .inr rfl))) (dgs_cons (dg_n rfl (pg_name (i := 13) SC.nd rfl (by first | exact .inl rfl | exact .inr rfl))) dgs_nil))))) (fun _ _ _ _ _ => dts_nil) (fun _ _ _ _ _ => (de_n (pv 13))))) da_nil))))))) oi_add)
  (dss_cons (ds_for PassesOwn.never rfl (di_enum (by rfl) G.n_enumerate (da_cons (de_m (dm_call C.c_tops hr (by rfl) (da_cons (de_n (pv 0)) (da_cons (de_n (pv 5)) (da_cons (de_n (pv 6)) (da_cons (de_n (pv 7)) da_nil)))) (many_cons (many_cons (many_cons (many_cons many_nil)))))) da_nil)) (dg_t rfl (dgs_cons (dg_n rfl (pg_name (i := 8) SC.nd rfl (by first | exact .inl rfl | exact .inr rfl))) (dgs_cons (dg_n rfl (pg_name (i := 9) SC.nd rfl (by first | exact .inl rfl | exact .inr rfl))) dgs_nil)))
    (dss_cons (ds_set (i := 10) SC.nd rfl (by first | exact .inl rfl | exact .inr rfl) rfl (dm_ix (de_m (dm_ix (de_n (pv 0)) (de_n (pv 8)))) de_int))
  (dss_one (ds_if (dt_w (dw_or (dt_cmp od_isN (de_n (pv 10)) de_non (nomark _)) (dw_or1 (dt_cmp od_lt (de_n (pv 10)) (de_m (dm_blt cd_len (by rfl) G.n_len (by decide +kernel) (da_cons (de_n (pv 5)) da_nil))) (nomark _)))))
    (dss_one (ds_aug (i := 4) SC.nd rfl (by first | exact .inl rfl | exact .inr rfl) rfl (de_n (pv 9)) oi_add))
    dss_nil))))
  (dss_one (ds_retV (pv 4))))))))
theorem ok_closes (F : Fun K "closes" "closes" s_closes f fd) (G : Gs w K mg) (C : Cs P w K mg base n call) : FnG P w K mg base (n + 1) f fd ["items", "room", "worth", "leaf"] (spD (kg0 K mg) 4 (g_closes call)) :=
  have SC := sc_closes
  fn_ok ["items", "room", "worth", "leaf"] ["items", "room", "worth", "leaf"] 4 4 (kpl [true, true, true, true]) (b_closes call) (g_closes call) rfl rfl rfl F SC fun cdv A outer s H E hr =>
  (dss_one (ds_ret (dm_cmp od_lt (de_m (dm_call C.c_bound_of hr (by rfl) (da_cons (de_n (pv 0)) (da_cons (de_n (pv 1)) (da_cons (de_n (pv 3)) da_nil))) (many_cons (many_cons (many_cons many_nil))))) (de_m (dm_bin od_mul (de_m (dm_ix (de_n (pv 3)) de_int)) (de_m (dm_bin od_add (de_n (pv 2)) de_int)))) (nomark _))))
theorem ok_taking_at (F : Fun K "taking_at" "taking_at" s_taking_at f fd) (G : Gs w K mg) (C : Cs P w K mg base n call) : FnG P w K mg base (n + 1) f fd ["items", "decided", "p", "q"] (spD (kg0 K mg) 4 (g_taking_at call)) :=
  have SC := sc_taking_at
  fn_ok ["items", "decided", "p", "q", "free", "high", "taken", "at", "above", "worth", "weight", "is_in"] ["items", "decided", "p", "q"] 4 12 (kpl [true, true, true, true]) (b_taking_at call) (g_taking_at call) rfl rfl rfl F SC fun cdv A outer s H E hr =>
  (dss_cons (ds_set (i := 4) SC.nd rfl (by first | exact .inl rfl | exact .inr rfl) rfl (dm_call C.c_free_items hr (by rfl) (da_cons (de_n (pv 0)) (da_cons (de_n (pv 1)) da_nil)) (many_cons (many_cons many_nil))))
  (dss_cons (ds_set (i := 5) SC.nd rfl (by first | exact .inl rfl | exact .inr rfl) rfl (dm_call C.c_tops hr (by rfl) (da_cons (de_n (pv 0)) (da_cons (de_n (pv 1)) (da_cons (de_n (pv 2)) (da_cons (de_n (pv 3)) da_nil)))) (many_cons (many_cons (many_cons (many_cons many_nil))))))
  (dss_cons (ds_set (i := 6) SC.nd rfl (by first | exact .inl rfl | exact .inr rfl) rfl (dm_lst da_nil))
  (dss_cons (ds_for PassesOwn.never rfl (di_enum (by rfl) G.n_enumerate (da_cons (de_n (pv 0)) da_nil)) (dg_t rfl (dgs_cons (dg_n rfl (pg_name (i := 7) SC.nd rfl (by first | exact .inl rfl | exact .inr rfl))) (dgs_cons (dg_t rfl (dgs_cons (dg_n rfl (pg_name (i := 8) SC.nd rfl (by first | exact .inl rfl | exact .inr rfl))) (dgs_cons (dg_n rfl (pg_name (i := 9) SC.nd rfl (by first | exact .inl rfl | exact .inr rfl))) (dgs_cons (dg_n rfl (pg_name (i := 10) SC.nd rfl (by first | exact .inl rfl | exact .inr rfl))) dgs_nil)))) dgs_nil)))
    (dss_cons (ds_if (dt_cmp od_lt (de_n (pv 7)) (de_m (dm_blt cd_len (by rfl) G.n_len (by decide +kernel) (da_cons (de_n (pv 1)) da_nil))) (nomark _))
    (dss_one (ds_set (i := 11) SC.nd rfl (by first | exact .inl rfl | exact .inr rfl) rfl (dm_cmp (od_eq (Ev.hu192 hr)) (de_m (dm_ix (de_n (pv 1)) (de_n (pv 7)))) de_str (nomark _))))
    (dss_one (ds_set (i := 11) SC.nd rfl (by first | exact .inl rfl | exact .inr rfl) rfl (dm_and (dm_ix (de_n (pv 4)) (de_n (pv 7))) (dm_and (dm_cmp od_gt (de_m (dm_ix (de_n (pv 5)) (de_n (pv 7)))) de_int (nomark _)) (dm_one (dm_or (dm_cmp od_isN (de_n (pv 8)) de_non (nomark _)) (dm_one (dm_cmp (od_in (Ev.hu192 hr)) (de_n (pv 8)) (de_n (pv 6)) (by with_unfolding_all rfl))))))))))
  (dss_one (ds_if (dt_val (dm_e (de_n (pv 11))))
    (dss_one (ds_expr (dm_app (pv 6) (de_n (pv 7)))))
    dss_nil))))
  (dss_one (ds_retV (pv 6)))))))
theorem ok_line_of (F : Fun K "line_of" "line_of" s_line_of f fd) (G : Gs w K mg) (C : Cs P w K mg base n call) : FnG P w K mg base (n + 1) f fd ["items", "room", "taken"] (spD (kg0 K mg) 3 (g_line_of call)) :=
  have SC := sc_line_of
  fn_ok ["items", "room", "taken", "at"] ["items", "room", "taken"] 3 4 (kpl [true, true, true]) (b_line_of call) (g_line_of call) rfl rfl rfl F SC fun cdv A outer s H E hr =>
  (dss_one (ds_ret (dm_tup (da_cons (de_m (dm_blt (cd_sum rfl) (by rfl) G.n_sum (by decide +kernel) (da_cons (de_m (dm_peek (dm_lc (own := [("at", 3)]) rfl SC.nd (di_any (di_seq (de_n (pv 2)))) (blkOk_by (own := [("at", 3)]) (N := ["items", "room", "taken", "at"]) (sc := defScope s_line_of) (by decide +kernel)) (fun _ _ _ _ _ => (dg_n rfl (pg_name (i := 3) SC.nd rfl (by first | exact .inl rfl | exact .inr rfl)))) (fun _ _ _ _ _ => dts_nil) (fun _ _ _ _ _ => (de_m (dm_ix (de_m (dm_ix (de_n (pv 0)) (de_n (pv 3)))) de_int)))))) da_nil))) (da_cons (de_m (dm_bin od_sub (de_n (pv 1)) (de_m (dm_blt (cd_sum rfl) (by rfl) G.n_sum (by decide +kernel) (da_cons (de_m (dm_peek (dm_lc (own := [("at", 3)]) rfl SC.nd (di_any (di_seq (de_n (pv 2)))) (blkOk_by (own := [("at", 3)]) (N := ["items", "room", "taken", "at"]) (sc := defScope s_line_of) (by decide +kernel)) (fun _ _ _ _ _ => (dg_n rfl (pg_name (i := 3) SC.nd rfl (by first | exact .inl rfl | exact .inr rfl)))) (fun _ _ _ _ _ => dts_nil) (fun _ _ _ _ _ => (de_m (dm_ix (de_m (dm_ix (de_n (pv 0)) (de_n (pv 3)))) de_int)))))) da_nil))))) da_nil)))))
theorem ok_best (F : FunV K "best" "best" s_best f fd) (G : Gs w K mg) (C : Cs P w K mg base n call) : FnG P w K mg base (n + 1) f fd ["items", "room"] (spD (kg0 K mg) 2 (g_best call)) :=
  have SC := sc_best
  fn_okV ["items", "room", "search", "waiting", "decided"] ["items", "room"] 2 5 (kpl [true, true]) (b_best call) (g_best call) rfl rfl rfl F SC fun cdv A outer s H E hr =>
  (dss_cons (ds_expr (dm_call C.c_look_at hr (by rfl) (da_cons (de_n (pv 0)) da_nil) (many_cons many_nil)))
  (dss_cons (ds_set (i := 2) SC.nd rfl (by first | exact .inl rfl | exact .inr rfl) rfl (dm_make C.i_Search hr (by rfl) (da_cons (de_n (pv 0)) (da_cons (de_n (pv 1)) da_nil)) (many_cons (many_cons many_nil))))
  (dss_cons (ds_set (i := 3) SC.nd rfl (by first | exact .inl rfl | exact .inr rfl) rfl (dm_lst (da_cons de_str da_nil)))
  (dss_cons (ds_while PassesOwn.never (dt_cmp (od_ne (Ev.hu192 hr)) (de_n (pv 3)) (de_m (dm_lst da_nil)) (nomark _))
    (dss_cons (ds_set (i := 4) SC.nd rfl (by first | exact .inl rfl | exact .inr rfl) rfl (dm_pop (pv 3)))
  (dss_one (ds_if (dt_not (dt_val (dm_mth (de_n (pv 2)) C.c_Search__is_closed hr (da_cons (de_n (pv 4)) da_nil) (many_cons many_nil))))
    (dss_cons (ds_expr (dm_app (pv 3) (de_m (dm_bin od_add (de_n (pv 4)) de_str))))
  (dss_one (ds_if (dt_val (dm_call C.c_may_take hr (by rfl) (da_cons (de_n (pv 0)) (da_cons (de_n (pv 4)) da_nil)) (many_cons (many_cons many_nil))))
    (dss_one (ds_expr (dm_app (pv 3) (de_m (dm_bin od_add (de_n (pv 4)) de_str)))))
    dss_nil)))
    dss_nil))))
  (dss_one (ds_ret (dm_box (dam_cons (dm_e (de_fld (de_n (pv 2)) G.a_Search_worth)) (dam_cons (dm_mvF (pe_chF (pv 2) G.a_Search_held)) (dam_cons (dm_blt (cd_sortD (Ev.hu194 hr)) (by rfl) G.n_sorted (by decide +kernel) (da_cons (de_fldF (de_n (pv 2)) G.a_Search_leaves) da_nil)) dam_nil))))))))))
theorem ok__law_bag (F : Fun K "_law_bag" "_law_bag" s__law_bag f fd) (G : Gs w K mg) (C : Cs P w K mg base n call) : FnG P w K mg base (n + 1) f fd ["_law_script"] (spD (kg0 K mg) 1 (g__law_bag call)) :=
  have SC := sc__law_bag
  fn_ok ["_law_script", "_law_cell"] ["_law_script"] 1 2 (kpl [true]) (b__law_bag call) (g__law_bag call) rfl rfl rfl F SC fun cdv A outer s H E hr =>
  (dss_one (ds_ret (dm_lst (da_cons de_int (da_cons de_int (da_cons de_int (da_cons (de_m (dm_lc (own := [("_law_cell", 1)]) rfl SC.nd (di_any (di_seq (de_m (dm_sl (de_n (pv 0)) dp_no (dp_ix de_int))))) (blkOk_by (own := [("_law_cell", 1)]) (N := ["_law_script", "_law_cell"]) (sc := defScope s__law_bag) (by decide +kernel)) (fun _ _ _ _ _ => (dg_n rfl (pg_name (i := 1) SC.nd rfl (by first | exact .inl rfl | exact .inr rfl)))) (fun _ _ _ _ _ => dts_nil) (fun _ _ _ _ _ => (de_m (dm_blt cd_abs (by rfl) G.n_abs (by decide +kernel) (da_cons (de_n (pv 1)) da_nil)))))) da_nil)))))))
theorem ok__law_take (F : Fun K "_law_take" "_law_take" s__law_take f fd) (G : Gs w K mg) (C : Cs P w K mg base n call) : FnG P w K mg base (n + 1) f fd ["_law_bag_here", "_law_many"] (spD (kg0 K mg) 2 (g__law_take call)) :=
  have SC := sc__law_take
  fn_ok ["_law_bag_here", "_law_many", "_law_first", "_law_second", "_law_cell", "_law_value"] ["_law_bag_here", "_law_many"] 2 6 (kpl [true, true]) (b__law_take call) (g__law_take call) rfl rfl rfl F SC fun cdv A outer s H E hr =>
  (dss_cons (ds_if (dt_cmp (od_eq (Ev.hu192 hr)) (de_m (dm_ix (de_n (pv 0)) de_int)) de_int (nomark _))
    (dss_cons (ds_set (i := 4) SC.nd rfl (by first | exact .inl rfl | exact .inr rfl) rfl (dm_e de_int))
  (dss_cons (ds_if (dt_cmp od_lt (de_m (dm_ix (de_n (pv 0)) de_int)) (de_m (dm_blt cd_len (by rfl) G.n_len (by decide +kernel) (da_cons (de_m (dm_ix (de_n (pv 0)) de_int)) da_nil))) (nomark _))
    (dss_one (ds_set (i := 4) SC.nd rfl (by first | exact .inl rfl | exact .inr rfl) rfl (dm_ix (de_m (dm_ix (de_n (pv 0)) de_int)) (de_m (dm_ix (de_n (pv 0)) de_int)))))
    dss_nil)
  (dss_cons (ds_augIx (pv 0) de_int de_int oi_add)
  (dss_cons (ds_if (dt_cmp od_ge (de_n (pv 4)) de_int (nomark _))
    (dss_one (ds_setIx (de_n (pv 4)) (pv 0) de_int))
    dss_nil)
  (dss_one (ds_setIx (de_m (dm_bin od_mod (de_m (dm_bin od_add (de_m (dm_bin od_add (de_m (dm_bin od_mul (de_m (dm_ix (de_n (pv 0)) de_int)) de_int)) (de_m (dm_bin od_mod (de_n (pv 4)) de_int)))) (de_m (dm_bin od_mul de_int (de_m (dm_ix (de_n (pv 0)) de_int)))))) de_int)) (pv 0) de_int))))))
    dss_nil)
  (dss_cons (ds_if (dt_cmp od_gt (de_m (dm_ix (de_n (pv 0)) de_int)) de_int (nomark _))
    (dss_cons (ds_set (i := 5) SC.nd rfl (by first | exact .inl rfl | exact .inr rfl) rfl (dm_bin od_mod (de_m (dm_ix (de_n (pv 0)) de_int)) (de_n (pv 1))))
  (dss_cons (ds_setIx (de_m (dm_bin od_fdiv (de_m (dm_ix (de_n (pv 0)) de_int)) (de_n (pv 1)))) (pv 0) de_int)
  (dss_one (ds_retV (pv 5)))))
    dss_nil)
  (dss_cons (ds_set (i := 2) SC.nd rfl (by first | exact .inl rfl | exact .inr rfl) rfl (dm_bin od_mod (de_m (dm_bin od_mul (de_m (dm_bin od_add (de_m (dm_ix (de_n (pv 0)) de_int)) de_int)) de_int)) de_int))
  (dss_cons (ds_set (i := 3) SC.nd rfl (by first | exact .inl rfl | exact .inr rfl) rfl (dm_bin od_mod (de_m (dm_bin od_mul (de_m (dm_bin od_mod (de_m (dm_bin od_mul (de_n (pv 2)) (de_n (pv 2)))) de_int)) de_int)) de_int))
  (dss_cons (ds_if (dt_cmp od_gt (de_n (pv 1)) de_int (nomark _))
    (dss_one (ds_ret (dm_bin od_mod (de_m (dm_bin od_add (de_m (dm_bin od_mul (de_n (pv 3)) de_int)) (de_n (pv 2)))) (de_n (pv 1)))))
    dss_nil)
  (dss_one (ds_ret (dm_bin od_mod (de_m (dm_bin od_fdiv (de_n (pv 3)) de_int)) (de_n (pv 1))))))))))
theorem ok__law_items (F : Fun K "_law_items" "_law_items" s__law_items f fd) (G : Gs w K mg) (C : Cs P w K mg base n call) : FnG P w K mg base (n + 1) f fd ["_law_bag_here", "_law_many"] (spD (kg0 K mg) 2 (g__law_items call)) :=
  have SC := sc__law_items
  fn_ok ["_law_bag_here", "_law_many", "_law_way", "_law_items_here", "_law_at", "_law_above", "_law_worth", "_law_turn", "_law_weight"] ["_law_bag_here", "_law_many"] 2 9 (kpl [true, true]) (b__law_items call) (g__law_items call) rfl rfl rfl F SC fun cdv A outer s H E hr =>
  (dss_cons (ds_set (i := 2) SC.nd rfl (by first | exact .inl rfl | exact .inr rfl) rfl (dm_call C.c__law_take hr (by rfl) (da_cons (de_n (pv 0)) (da_cons de_int da_nil)) (many_cons (many_cons many_nil))))
  (dss_cons (ds_set (i := 3) SC.nd rfl (by first | exact .inl rfl | exact .inr rfl) rfl (dm_lst da_nil))
  (dss_cons (ds_for PassesOwn.never rfl (di_any (di_rng1 (by rfl) G.n_range (de_n (pv 1)))) (dg_n rfl (pg_name (i := 4) SC.nd rfl (by first | exact .inl rfl | exact .inr rfl)))
    (dss_cons (ds_set (i := 5) SC.nd rfl (by first | exact .inl rfl | exact .inr rfl) rfl (dm_ix (de_m (dm_lst (da_cons de_non (da_cons (de_m (dm_bin od_sub (de_n (pv 4)) de_int)) (da_cons (de_m (dm_bin od_sub (de_m (dm_call C.c__law_take hr (by rfl) (da_cons (de_n (pv 0)) (da_cons (de_m (dm_bin od_add (de_n (pv 4)) de_int)) da_nil)) (many_cons (many_cons many_nil)))) de_int)) da_nil))))) (de_m (dm_call C.c__law_take hr (by rfl) (da_cons (de_n (pv 0)) (da_cons de_int da_nil)) (many_cons (many_cons many_nil))))))
  (dss_cons (ds_if (dt_w (dw_and (dt_cmp od_isnN (de_n (pv 5)) de_non (nomark _)) (dw_and1 (dt_cmp od_lt (de_n (pv 5)) de_int (nomark _)))))
    (dss_one (ds_set (i := 5) SC.nd rfl (by first | exact .inl rfl | exact .inr rfl) rfl (dm_e de_non)))
    dss_nil)
  (dss_cons (ds_set (i := 6) SC.nd rfl (by first | exact .inl rfl | exact .inr rfl) rfl (dm_ix (de_m (dm_lst (da_cons (de_m (dm_call C.c__law_take hr (by rfl) (da_cons (de_n (pv 0)) (da_cons de_int da_nil)) (many_cons (many_cons many_nil)))) (da_cons (de_m (dm_call C.c__law_take hr (by rfl) (da_cons (de_n (pv 0)) (da_cons de_int da_nil)) (many_cons (many_cons many_nil)))) (da_cons (de_m (dm_call C.c__law_take hr (by rfl) (da_cons (de_n (pv 0)) (da_cons (de_m (dm_bin od_add (de_m (dm_bin od_pow de_int de_int)) de_int)) da_nil)) (many_cons (many_cons many_nil)))) (da_cons de_int da_nil)))))) (de_n (pv 2))))
  (dss_cons (ds_set (i := 7) SC.nd rfl (by first | exact .inl rfl | exact .inr rfl) rfl (dm_bin od_mod (de_m (dm_bin od_add (de_n (pv 2)) (de_m (dm_call C.c__law_take hr (by rfl) (da_cons (de_n (pv 0)) (da_cons de_int da_nil)) (many_cons (many_cons many_nil)))))) de_int))
  (dss_cons (ds_set (i := 8) SC.nd rfl (by first | exact .inl rfl | exact .inr rfl) rfl (dm_ix (de_m (dm_lst (da_cons (de_m (dm_bin od_sub (de_m (dm_call C.c__law_take hr (by rfl) (da_cons (de_n (pv 0)) (da_cons de_int da_nil)) (many_cons (many_cons many_nil)))) de_int)) (da_cons (de_m (dm_bin od_add de_int (de_m (dm_call C.c__law_take hr (by rfl) (da_cons (de_n (pv 0)) (da_cons de_int da_nil)) (many_cons (many_cons many_nil)))))) (da_cons (de_m (dm_bin od_sub (de_m (dm_call C.c__law_take hr (by rfl) (da_cons (de_n (pv 0)) (da_cons de_int da_nil)) (many_cons (many_cons many_nil)))) de_int)) (da_cons de_int da_nil)))))) (de_n (pv 7))))
  (dss_one (ds_expr (dm_app (pv 3) (de_m (dm_tup (da_cons (de_n (pv 5)) (da_cons (de_n (pv 6)) (da_cons (de_n (pv 8)) da_nil))))))))))))))
  (dss_one (ds_retV (pv 3))))))
theorem ok__law_room (F : Fun K "_law_room" "_law_room" s__law_room f fd) (G : Gs w K mg) (C : Cs P w K mg base n call) : FnG P w K mg base (n + 1) f fd ["_law_bag_here"] (spD (kg0 K mg) 1 (g__law_room call)) :=
  have SC := sc__law_room
  fn_ok ["_law_bag_here"] ["_law_bag_here"] 1 1 (kpl [true]) (b__law_room call) (g__law_room call) rfl rfl rfl F SC fun cdv A outer s H E hr =>
  (dss_one (ds_ret (dm_ix (de_m (dm_lst (da_cons (de_m (dm_call C.c__law_take hr (by rfl) (da_cons (de_n (pv 0)) (da_cons de_int da_nil)) (many_cons (many_cons many_nil)))) (da_cons (de_m (dm_call C.c__law_take hr (by rfl) (da_cons (de_n (pv 0)) (da_cons de_int da_nil)) (many_cons (many_cons many_nil)))) (da_cons de_int (da_cons de_int da_nil)))))) (de_m (dm_call C.c__law_take hr (by rfl) (da_cons (de_n (pv 0)) (da_cons de_int da_nil)) (many_cons (many_cons many_nil)))))))
theorem ok__law_takings (F : Fun K "_law_takings" "_law_takings" s__law_takings f fd) (G : Gs w K mg) (C : Cs P w K mg base n call) : FnG P w K mg base (n + 1) f fd ["_law_items_here"] (spD (kg0 K mg) 1 (g__law_takings call)) :=
  have SC := sc__law_takings
  fn_ok ["_law_items_here", "_law_found", "_law_at", "_law_above", "_law_some"] ["_law_items_here"] 1 5 (kpl [true]) (b__law_takings call) (g__law_takings call) rfl rfl rfl F SC fun cdv A outer s H E hr =>
  (dss_cons (ds_set (i := 1) SC.nd rfl (by first | exact .inl rfl | exact .inr rfl) rfl (dm_lst (da_cons (de_m (dm_lst da_nil)) da_nil)))
  (dss_cons (ds_for PassesOwn.never rfl (di_any (di_rng1 (by rfl) G.n_range (de_m (dm_blt cd_len (by rfl) G.n_len (by decide +kernel) (da_cons (de_n (pv 0)) da_nil))))) (dg_n rfl (pg_name (i := 2) SC.nd rfl (by first | exact .inl rfl | exact .inr rfl)))
    (dss_cons (ds_set (i := 3) SC.nd rfl (by first | exact .inl rfl | exact .inr rfl) rfl (dm_ix (de_m (dm_ix (de_n (pv 0)) (de_n (pv 2)))) de_int))
  (dss_one (ds_set (i := 1) SC.nd rfl (by first | exact .inl rfl | exact .inr rfl) rfl (dm_bin od_add (de_n (pv 1)) (de_m (dm_lc (own := [("_law_some", 4)]) rfl SC.nd (di_any (di_seq (de_n (pv 1)))) (blkOk_by (own := [("_law_some", 4)]) (N := ["_law_items_here", "_law_found", "_law_at", "_law_above", "_law_some"]) (sc := defScope s__law_takings) (by decide +kernel)) (fun _ _ _ _ _ => (dg_n rfl (pg_name (i := 4) SC.nd rfl (by first | exact .inl rfl | exact .inr rfl)))) (fun _ _ _ _ _ => (dts_one (dt_w (dw_or (dt_cmp od_isN (de_n (pv 3)) de_non (nomark _)) (dw_or1 (dt_cmp (od_in (Ev.hu192 hr)) (de_n (pv 3)) (de_n (pv 4)) (by with_unfolding_all rfl))))))) (fun _ _ _ _ _ => (de_m (dm_bin od_add (de_n (pv 4)) (de_m (dm_lst (da_cons (de_n (pv 2)) da_nil)))))))))))))
  (dss_one (ds_retV (pv 1)))))
theorem ok__law_due (F : Fun K "_law_due" "_law_due" s__law_due f fd) (G : Gs w K mg) (C : Cs P w K mg base n call) : FnG P w K mg base (n + 1) f fd ["_law_items_here", "_law_wide"] (spD (kg0 K mg) 2 (g__law_due call)) :=
  have SC := sc__law_due
  fn_ok ["_law_items_here", "_law_wide", "_law_high", "_law_some", "_law_taking", "_law_worth", "_law_at"] ["_law_items_here", "_law_wide"] 2 7 (kpl [true, true]) (b__law_due call) (g__law_due call) rfl rfl rfl F SC fun cdv A outer s H E hr =>
  (dss_cons (ds_set (i := 2) SC.nd rfl (by first | exact .inl rfl | exact .inr rfl) rfl (dm_neg de_int))
  (dss_cons (ds_set (i := 3) SC.nd rfl (by first | exact .inl rfl | exact .inr rfl) rfl dm_dk0)
  (dss_cons (ds_for PassesOwn.never rfl (di_any (di_seq (de_m (dm_call C.c__law_takings hr (by rfl) (da_cons (de_n (pv 0)) da_nil) (many_cons many_nil))))) (dg_n rfl (pg_name (i := 4) SC.nd rfl (by first | exact .inl rfl | exact .inr rfl)))
    (dss_one (ds_if (dt_cmp od_le (de_m (dm_blt (cd_sum rfl) (by rfl) G.n_sum (by decide +kernel) (da_cons (de_m (dm_lc (own := [("_law_at", 6)]) rfl SC.nd (di_any (di_seq (de_n (pv 4)))) (blkOk_by (own := [("_law_at", 6)]) (N := ["_law_items_here", "_law_wide", "_law_high", "_law_some", "_law_taking", "_law_worth", "_law_at"]) (sc := defScope s__law_due) (by decide +kernel)) (fun _ _ _ _ _ => (dg_n rfl (pg_name (i := 6) SC.nd rfl (by first | exact .inl rfl | exact .inr rfl)))) (fun _ _ _ _ _ => dts_nil) (fun _ _ _ _ _ => (de_m (dm_ix (de_m (dm_ix (de_n (pv 0)) (de_n (pv 6)))) de_int))))) da_nil))) (de_n (pv 1)) (nomark _))
    (dss_cons (ds_set (i := 5) SC.nd rfl (by first | exact .inl rfl | exact .inr rfl) rfl (dm_blt (cd_sum rfl) (by rfl) G.n_sum (by decide +kernel) (da_cons (de_m (dm_lc (own := [("_law_at", 6)]) rfl SC.nd (di_any (di_seq (de_n (pv 4)))) (blkOk_by (own := [("_law_at", 6)]) (N := ["_law_items_here", "_law_wide", "_law_high", "_law_some", "_law_taking", "_law_worth", "_law_at"]) (sc := defScope s__law_due) (by decide +kernel)) (fun _ _ _ _ _ => (dg_n rfl (pg_name (i := 6) SC.nd rfl (by first | exact .inl rfl | exact .inr rfl)))) (fun _ _ _ _ _ => dts_nil) (fun _ _ _ _ _ => (de_m (dm_ix (de_m (dm_ix (de_n (pv 0)) (de_n (pv 6)))) de_int))))) da_nil)))
  (dss_cons (ds_if (dt_cmp od_gt (de_n (pv 5)) (de_n (pv 2)) (nomark _))
    (dss_cons (ds_set (i := 2) SC.nd rfl (by first | exact .inl rfl | exact .inr rfl) rfl (dm_e (de_n (pv 5))))
  (dss_one (ds_set (i := 3) SC.nd rfl (by first | exact .inl rfl | exact .inr rfl) rfl dm_dk0)))
    dss_nil)
  (dss_one (ds_if (dt_cmp (od_eq (Ev.hu192 hr)) (de_n (pv 5)) (de_n (pv 2)) (nomark _))
    (dss_one (ds_dset (Ev.hu1 hr) de_bl (pv 3) (de_m (dm_blt (cd_repr hr) (by rfl) G.n_repr (by decide +kernel) (da_cons (de_n (pv 4)) da_nil)))))
    dss_nil))))
    dss_nil)))
  (dss_one (ds_ret (dm_tup (da_cons (de_n (pv 2)) (da_cons (de_n (pv 3)) da_nil))))))))
theorem ok_law (F : Fun K "law" "law" s_law f fd) (G : Gs w K mg) (C : Cs P w K mg base n call) : FnG P w K mg base (n + 1) f fd ["_law_script"] (spD (kg0 K mg) 1 (g_law call)) :=
  have SC := sc_law
  fn_ok ["_law_script", "_law_bag_here", "_law_rows", "_law_turn", "_law_items_here", "_law_wide", "_law_due_here", "_law_handed", "_law_told"] ["_law_script"] 1 9 (kpl [true]) (b_law call) (g_law call) rfl rfl rfl F SC fun cdv A outer s H E hr =>
  (dss_cons (ds_set (i := 1) SC.nd rfl (by first | exact .inl rfl | exact .inr rfl) rfl (dm_call C.c__law_bag hr (by rfl) (da_cons (de_n (pv 0)) da_nil) (many_cons many_nil)))
  (dss_cons (ds_set (i := 2) SC.nd rfl (by first | exact .inl rfl | exact .inr rfl) rfl (dm_lst da_nil))
  (dss_cons (ds_for PassesOwn.never rfl (di_any (di_rng1 (by rfl) G.n_range de_int)) (dg_n rfl (pg_name (i := 3) SC.nd rfl (by first | exact .inl rfl | exact .inr rfl)))
    (dss_cons (ds_set (i := 4) SC.nd rfl (by first | exact .inl rfl | exact .inr rfl) rfl (dm_e (de_m (dm_call C.c__law_items hr (by rfl) (da_cons (de_n (pv 1)) (da_cons (de_m (dm_ix (de_m (dm_lst (da_cons (de_m (dm_call C.c__law_take hr (by rfl) (da_cons (de_n (pv 1)) (da_cons de_int da_nil)) (many_cons (many_cons many_nil)))) (da_cons (de_m (dm_ix (de_m (dm_lst (da_cons de_int (da_cons de_int da_nil)))) (de_m (dm_call C.c__law_take hr (by rfl) (da_cons (de_n (pv 1)) (da_cons de_int da_nil)) (many_cons (many_cons many_nil)))))) da_nil)))) (de_m (dm_call C.c__law_take hr (by rfl) (da_cons (de_n (pv 1)) (da_cons de_int da_nil)) (many_cons (many_cons many_nil)))))) da_nil)) (many_cons (many_cons many_nil))))))
  (dss_cons (ds_set (i := 5) SC.nd rfl (by first | exact .inl rfl | exact .inr rfl) rfl (dm_call C.c__law_room hr (by rfl) (da_cons (de_n (pv 1)) da_nil) (many_cons many_nil)))
  (dss_one (ds_expr (dm_app (pv 2) (de_m (dm_tup (da_cons (de_n (pv 4)) (da_cons (de_n (pv 5)) (da_cons (de_m (dm_call C.c__law_due hr (by rfl) (da_cons (de_n (pv 4)) (da_cons (de_n (pv 5)) da_nil)) (many_cons (many_cons many_nil)))) da_nil)))))))))))
  (dss_cons (ds_for PassesOwn.never rfl (di_any (di_seq (de_m (dm_bin od_add (de_n (pv 2)) (de_m (dm_sl (de_n (pv 2)) dp_no (dp_ix de_int))))))) (dg_t rfl (dgs_cons (dg_n rfl (pg_name (i := 4) SC.nd rfl (by first | exact .inl rfl | exact .inr rfl))) (dgs_cons (dg_n rfl (pg_name (i := 5) SC.nd rfl (by first | exact .inl rfl | exact .inr rfl))) (dgs_cons (dg_n rfl (pg_name (i := 6) SC.nd rfl (by first | exact .inl rfl | exact .inr rfl))) dgs_nil))))
    (dss_cons (ds_set (i := 7) SC.nd rfl (by first | exact .inl rfl | exact .inr rfl) rfl (dm_e (de_m (dm_bty cd_list (by rfl) G.n_list (by decide +kernel) (da_cons (de_n (pv 4)) da_nil)))))
  (dss_cons (ds_set (i := 8) SC.nd rfl (by first | exact .inl rfl | exact .inr rfl) rfl (dm_callK C.c_best hr (by rfl) (List.Mem.head _) (da_cons (de_n (pv 7)) da_nil) (many_cons many_nil) (dk_cons (de_n (pv 5)) dk_nil) (many_cons many_nil)))
  (dss_cons (ds_if (dt_w (dw_and (dt_cmp (od_eq (Ev.hu192 hr)) (de_n (pv 5)) de_int (nomark _)) (dw_and1 (dt_cmp od_gt (de_m (dm_blt cd_len (by rfl) G.n_len (by decide +kernel) (da_cons (de_n (pv 4)) da_nil))) de_int (nomark _)))))
    (dss_one (ds_set (i := 8) SC.nd rfl (by first | exact .inl rfl | exact .inr rfl) rfl (dm_callK C.c_best hr (by rfl) (List.Mem.tail _ (List.Mem.head _)) (da_cons (de_n (pv 7)) da_nil) (many_cons many_nil) dk_nil many_nil)))
    dss_nil)
  (dss_cons (ds_if (dt_peek (dt_w (dw_or (dt_cmp (od_ne (Ev.hu192 hr)) (de_m (dm_ix (de_n (pv 8)) de_int)) (de_m (dm_ix (de_n (pv 6)) de_int)) (nomark _)) (dw_or (dt_val (dm_blt cd_isi (by rfl) G.n_isinstance (by decide +kernel) (da_cons (de_m (dm_ix (de_n (pv 8)) de_int)) (da_cons (de_c (pe_bltn (by rfl) G.n_bool (by decide +kernel) (show RelV (.ty "bool") _ from rfl)) fun _ => .ty _) da_nil)))) (dw_or (dt_dnin (Ev.hu1 hr) (de_m (dm_blt (cd_repr hr) (by rfl) G.n_repr (by decide +kernel) (da_cons (de_m (dm_ix (de_n (pv 8)) de_int)) da_nil))) (de_m (dm_ix (de_n (pv 6)) de_int)) (by with_unfolding_all rfl)) (dw_or1 (dt_cmp (od_ne (Ev.hu192 hr)) (de_n (pv 7)) (de_n (pv 4)) (nomark _))))))))
    (dss_one (ds_ret (dm_e de_bl)))
    dss_nil)
  (dss_cons (ds_expr (dm_appC (pe_chI (pv 8) pe_int) de_int))
  (dss_one (ds_expr (dm_clrC (pe_chI (pv 8) pe_int))))))))))
  (dss_one (ds_ret (dm_e de_bl)))))))
theorem ok_Search____init__ (F : Fun K "__init__" "Search.__init__" s_Search____init__ f fd) (G : Gs w K mg) (C : Cs P w K mg base n call) : FnG P w K mg base (n + 1) f fd ["self", "items", "room"] (spD (kg0 K mg) 3 (g_Search____init__ call)) :=
  have SC := sc_Search____init__
  fn_ok ["self", "items", "room"] ["self", "items", "room"] 3 3 (kpl [true, true, true]) (b_Search____init__ call) (g_Search____init__ call) rfl rfl rfl F SC fun cdv A outer s H E hr =>
  (dss_cons (ds_setF (dm_e (de_n (pv 1))) (pv 0) G.a_Search_rows)
  (dss_cons (ds_setF (dm_e (de_n (pv 2))) (pv 0) G.a_Search_room)
  (dss_cons (ds_setF (dm_e de_int) (pv 0) G.a_Search_worth)
  (dss_cons (ds_setF (dm_lst da_nil) (pv 0) G.a_Search_held)
  (dss_one (ds_setF (dm_lst da_nil) (pv 0) G.a_Search_leaves))))))
theorem ok_Search__note (F : Fun K "note" "Search.note" s_Search__note f fd) (G : Gs w K mg) (C : Cs P w K mg base n call) : FnG P w K mg base (n + 1) f fd ["self", "taken"] (spD (kg0 K mg) 2 (g_Search__note call)) :=
  have SC := sc_Search__note
  fn_ok ["self", "taken", "worth", "left"] ["self", "taken"] 2 4 (kpl [true, true]) (b_Search__note call) (g_Search__note call) rfl rfl rfl F SC fun cdv A outer s H E hr =>
  (dss_cons (ds_asg (de_m (dm_call C.c_line_of hr (by rfl) (da_cons (de_fld (de_n (pv 0)) G.a_Search_rows) (da_cons (de_fld (de_n (pv 0)) G.a_Search_room) (da_cons (de_n (pv 1)) da_nil))) (many_cons (many_cons (many_cons many_nil))))) (dg_t rfl (dgs_cons (dg_n rfl (pg_name (i := 2) SC.nd rfl (by first | exact .inl rfl | exact .inr rfl))) (dgs_cons (dg_n rfl (pg_name (i := 3) SC.nd rfl (by first | exact .inl rfl | exact .inr rfl))) dgs_nil))))
  (dss_cons (ds_if (dt_w (dw_and (dt_cmp od_ge (de_n (pv 3)) de_int (nomark _)) (dw_and1 (dt_cmp od_gt (de_n (pv 2)) (de_fld (de_n (pv 0)) G.a_Search_worth) (nomark _)))))
    (dss_cons (ds_setF (dm_e (de_n (pv 2))) (pv 0) G.a_Search_worth)
  (dss_one (ds_setF (dm_mv (pv 1)) (pv 0) G.a_Search_held)))
    dss_nil)
  (dss_one (ds_ret (dm_tup (da_cons (de_n (pv 2)) (da_cons (de_n (pv 3)) da_nil)))))))
theorem ok_Search__try_rate (F : Fun K "try_rate" "Search.try_rate" s_Search__try_rate f fd) (G : Gs w K mg) (C : Cs P w K mg base n call) : FnG P w K mg base (n + 1) f fd ["self", "decided", "p", "q"] (spD (kg0 K mg) 4 (g_Search__try_rate call)) :=
  have SC := sc_Search__try_rate
  fn_ok ["self", "decided", "p", "q", "line", "leaf"] ["self", "decided", "p", "q"] 4 6 (kpl [true, true, true, true]) (b_Search__try_rate call) (g_Search__try_rate call) rfl rfl rfl F SC fun cdv A outer s H E hr =>
  (dss_cons (ds_set (i := 4) SC.nd rfl (by first | exact .inl rfl | exact .inr rfl) rfl (dm_mth1 (de_n (pv 0)) C.c_Search__note hr (dm_call C.c_taking_at hr (by rfl) (da_cons (de_fld (de_n (pv 0)) G.a_Search_rows) (da_cons (de_n (pv 1)) (da_cons (de_n (pv 2)) (da_cons (de_n (pv 3)) da_nil)))) (many_cons (many_cons (many_cons (many_cons many_nil)))))))
  (dss_cons (ds_set (i := 5) SC.nd rfl (by first | exact .inl rfl | exact .inr rfl) rfl (dm_tup (da_cons (de_n (pv 1)) (da_cons (de_n (pv 2)) (da_cons (de_n (pv 3)) da_nil)))))
  (dss_cons (ds_if (dt_val (dm_call C.c_closes hr (by rfl) (da_cons (de_fld (de_n (pv 0)) G.a_Search_rows) (da_cons (de_fld (de_n (pv 0)) G.a_Search_room) (da_cons (de_fld (de_n (pv 0)) G.a_Search_worth) (da_cons (de_n (pv 5)) da_nil)))) (many_cons (many_cons (many_cons (many_cons many_nil))))))
    (dss_cons (ds_expr (dm_appC (pe_chF (pv 0) G.a_Search_leaves) (de_n (pv 5))))
  (dss_one (ds_ret (dm_tup (da_cons (de_n (pv 4)) (da_cons de_bl da_nil))))))
    dss_nil)
  (dss_one (ds_ret (dm_tup (da_cons (de_n (pv 4)) (da_cons de_bl da_nil))))))))
theorem ok_Search__is_closed (F : Fun K "is_closed" "Search.is_closed" s_Search__is_closed f fd) (G : Gs w K mg) (C : Cs P w K mg base n call) : FnG P w K mg base (n + 1) f fd ["self", "decided"] (spD (kg0 K mg) 2 (g_Search__is_closed call)) :=
  have SC := sc_Search__is_closed
  fn_ok ["self", "decided", "turn", "low", "closed", "high", "p", "q", "line"] ["self", "decided"] 2 9 (kpl [true, true]) (b_Search__is_closed call) (g_Search__is_closed call) rfl rfl rfl F SC fun cdv A outer s H E hr =>
  (dss_cons (ds_asg (de_m (dm_mth (de_n (pv 0)) C.c_Search__try_rate hr (da_cons (de_n (pv 1)) (da_cons de_int (da_cons de_int da_nil))) (many_cons (many_cons (many_cons many_nil))))) (dg_t rfl (dgs_cons (dg_n rfl (pg_name (i := 3) SC.nd rfl (by first | exact .inl rfl | exact .inr rfl))) (dgs_cons (dg_n rfl (pg_name (i := 4) SC.nd rfl (by first | exact .inl rfl | exact .inr rfl))) dgs_nil))))
  (dss_cons (ds_if (dt_val (dm_e (de_n (pv 4))))
    (dss_one (ds_ret (dm_e de_bl)))
    dss_nil)
  (dss_cons (ds_asg (de_m (dm_mth (de_n (pv 0)) C.c_Search__try_rate hr (da_cons (de_n (pv 1)) (da_cons (de_g (by rfl) G.g_STEEP) (da_cons de_int da_nil))) (many_cons (many_cons (many_cons many_nil))))) (dg_t rfl (dgs_cons (dg_n rfl (pg_name (i := 5) SC.nd rfl (by first | exact .inl rfl | exact .inr rfl))) (dgs_cons (dg_n rfl (pg_name (i := 4) SC.nd rfl (by first | exact .inl rfl | exact .inr rfl))) dgs_nil))))
  (dss_cons (ds_for PassesOwn.never rfl (di_any (di_rng1 (by rfl) G.n_range (de_g (by rfl) G.g_MOST_TURNS))) (dg_n rfl (pg_name (i := 2) SC.nd rfl (by first | exact .inl rfl | exact .inr rfl)))
    (dss_cons (ds_if (dt_w (dw_or (dt_val (dm_e (de_n (pv 4)))) (dw_or (dt_cmp od_le (de_m (dm_ix (de_n (pv 3)) de_int)) (de_m (dm_ix (de_n (pv 5)) de_int)) (nomark _)) (dw_or1 (dt_cmp od_le (de_m (dm_ix (de_n (pv 5)) de_int)) (de_m (dm_ix (de_n (pv 3)) de_int)) (nomark _))))))
    (dss_one (ds_retV (pv 4)))
    dss_nil)
  (dss_cons (ds_par (i := 6) (j := 7) rfl SC.nd rfl rfl (by decide) rfl rfl rfl rfl (da_cons (de_m (dm_bin od_sub (de_m (dm_ix (de_n (pv 3)) de_int)) (de_m (dm_ix (de_n (pv 5)) de_int)))) (da_cons (de_m (dm_bin od_sub (de_m (dm_ix (de_n (pv 5)) de_int)) (de_m (dm_ix (de_n (pv 3)) de_int)))) da_nil)) (by rfl))
  (dss_cons (ds_asg (de_m (dm_mth (de_n (pv 0)) C.c_Search__try_rate hr (da_cons (de_n (pv 1)) (da_cons (de_n (pv 6)) (da_cons (de_n (pv 7)) da_nil))) (many_cons (many_cons (many_cons many_nil))))) (dg_t rfl (dgs_cons (dg_n rfl (pg_name (i := 8) SC.nd rfl (by first | exact .inl rfl | exact .inr rfl))) (dgs_cons (dg_n rfl (pg_name (i := 4) SC.nd rfl (by first | exact .inl rfl | exact .inr rfl))) dgs_nil))))
  (dss_cons (ds_if (dt_w (dw_or (dt_val (dm_e (de_n (pv 4)))) (dw_or1 (dt_cmp od_le (de_m (dm_bin od_add (de_m (dm_bin od_mul (de_n (pv 7)) (de_m (dm_ix (de_n (pv 8)) de_int)))) (de_m (dm_bin od_mul (de_n (pv 6)) (de_m (dm_ix (de_n (pv 8)) de_int)))))) (de_m (dm_bin od_add (de_m (dm_bin od_mul (de_n (pv 7)) (de_m (dm_ix (de_n (pv 3)) de_int)))) (de_m (dm_bin od_mul (de_n (pv 6)) (de_m (dm_ix (de_n (pv 3)) de_int)))))) (nomark _)))))
    (dss_one (ds_retV (pv 4)))
    dss_nil)
  (dss_one (ds_if (dt_cmp od_lt (de_m (dm_ix (de_n (pv 8)) de_int)) de_int (nomark _))
    (dss_one (ds_set (i := 3) SC.nd rfl (by first | exact .inl rfl | exact .inr rfl) rfl (dm_e (de_n (pv 8)))))
    (dss_one (ds_set (i := 5) SC.nd rfl (by first | exact .inl rfl | exact .inr rfl) rfl (dm_e (de_n (pv 8))))))))))))
  (dss_one (ds_retV (pv 4)))))))
end
structure Fs (w : World) (K : PySem.W.Frag) (mg : Str → Option Value) : Prop where
  G : Gs w K mg
  f_is_whole : ∃ f fd, Fun K "is_whole" "is_whole" s_is_whole f fd ∧ mg "is_whole" = some (.ref f)
  f_is_from_to : ∃ f fd, Fun K "is_from_to" "is_from_to" s_is_from_to f fd ∧ mg "is_from_to" = some (.ref f)
  f_is_item : ∃ f fd, Fun K "is_item" "is_item" s_is_item f fd ∧ mg "is_item" = some (.ref f)
  f_look_at : ∃ f fd, Fun K "look_at" "look_at" s_look_at f fd ∧ mg "look_at" = some (.ref f)
  f_may_take : ∃ f fd, Fun K "may_take" "may_take" s_may_take f fd ∧ mg "may_take" = some (.ref f)
  f_free_items : ∃ f fd, Fun K "free_items" "free_items" s_free_items f fd ∧ mg "free_items" = some (.ref f)
  f_tops : ∃ f fd, Fun K "tops" "tops" s_tops f fd ∧ mg "tops" = some (.ref f)
  f_bound_of : ∃ f fd, Fun K "bound_of" "bound_of" s_bound_of f fd ∧ mg "bound_of" = some (.ref f)
  f_closes : ∃ f fd, Fun K "closes" "closes" s_closes f fd ∧ mg "closes" = some (.ref f)
  f_taking_at : ∃ f fd, Fun K "taking_at" "taking_at" s_taking_at f fd ∧ mg "taking_at" = some (.ref f)
  f_line_of : ∃ f fd, Fun K "line_of" "line_of" s_line_of f fd ∧ mg "line_of" = some (.ref f)
  f_best : ∃ f fd, FunD K "best" "best" (defArgs s_best) (defBody s_best) (defScope s_best) [] [("room", .int 60)] f fd ∧ mg "best" = some (.ref f)
  f__law_bag : ∃ f fd, Fun K "_law_bag" "_law_bag" s__law_bag f fd ∧ mg "_law_bag" = some (.ref f)
  f__law_take : ∃ f fd, Fun K "_law_take" "_law_take" s__law_take f fd ∧ mg "_law_take" = some (.ref f)
  f__law_items : ∃ f fd, Fun K "_law_items" "_law_items" s__law_items f fd ∧ mg "_law_items" = some (.ref f)
  f__law_room : ∃ f fd, Fun K "_law_room" "_law_room" s__law_room f fd ∧ mg "_law_room" = some (.ref f)
  f__law_takings : ∃ f fd, Fun K "_law_takings" "_law_takings" s__law_takings f fd ∧ mg "_law_takings" = some (.ref f)
  f__law_due : ∃ f fd, Fun K "_law_due" "_law_due" s__law_due f fd ∧ mg "_law_due" = some (.ref f)
  f_law : ∃ f fd, Fun K "law" "law" s_law f fd ∧ mg "law" = some (.ref f)
  f_Search____init__ : ∃ C f fd, Fun K "__init__" "Search.__init__" s_Search____init__ f fd ∧ mg "Search" = some (.ref C) ∧ Mk K C f
  f_Search__note : ∃ C f fd, Fun K "note" "Search.note" s_Search__note f fd ∧ mg "Search" = some (.ref C) ∧ Cls K C ∧ Meth K C "note" f
  f_Search__try_rate : ∃ C f fd, Fun K "try_rate" "Search.try_rate" s_Search__try_rate f fd ∧ mg "Search" = some (.ref C) ∧ Cls K C ∧ Meth K C "try_rate" f
  f_Search__is_closed : ∃ C f fd, Fun K "is_closed" "Search.is_closed" s_Search__is_closed f fd ∧ mg "Search" = some (.ref C) ∧ Cls K C ∧ Meth K C "is_closed" f
section
variable {P : Program} {w : World} {K : PySem.W.Frag} {mg : Str → Option Value} {base : Heap}
theorem bd_is_whole {f : Addr} {fd : FuncData} (F : Fun K "is_whole" "is_whole" s_is_whole f fd) : Binds K fd ["thing"] [] := F.binds (ps := ["thing"]) fun _ _ _ _ _ _ us hl => match us, hl with | [_], _ => rfl
theorem bd_is_from_to {f : Addr} {fd : FuncData} (F : Fun K "is_from_to" "is_from_to" s_is_from_to f fd) : Binds K fd ["thing", "least", "most"] [] := F.binds (ps := ["thing", "least", "most"]) fun _ _ _ _ _ _ us hl => match us, hl with | [_, _, _], _ => rfl
theorem bd_is_item {f : Addr} {fd : FuncData} (F : Fun K "is_item" "is_item" s_is_item f fd) : Binds K fd ["thing", "at"] [] := F.binds (ps := ["thing", "at"]) fun _ _ _ _ _ _ us hl => match us, hl with | [_, _], _ => rfl
theorem bd_look_at {f : Addr} {fd : FuncData} (F : Fun K "look_at" "look_at" s_look_at f fd) : Binds K fd ["items"] [] := F.binds (ps := ["items"]) fun _ _ _ _ _ _ us hl => match us, hl with | [_], _ => rfl
theorem bd_may_take {f : Addr} {fd : FuncData} (F : Fun K "may_take" "may_take" s_may_take f fd) : Binds K fd ["items", "decided"] [] := F.binds (ps := ["items", "decided"]) fun _ _ _ _ _ _ us hl => match us, hl with | [_, _], _ => rfl
theorem bd_free_items {f : Addr} {fd : FuncData} (F : Fun K "free_items" "free_items" s_free_items f fd) : Binds K fd ["items", "decided"] [] := F.binds (ps := ["items", "decided"]) fun _ _ _ _ _ _ us hl => match us, hl with | [_, _], _ => rfl
theorem bd_tops {f : Addr} {fd : FuncData} (F : Fun K "tops" "tops" s_tops f fd) : Binds K fd ["items", "decided", "p", "q"] [] := F.binds (ps := ["items", "decided", "p", "q"]) fun _ _ _ _ _ _ us hl => match us, hl with | [_, _, _, _], _ => rfl
theorem bd_bound_of {f : Addr} {fd : FuncData} (F : Fun K "bound_of" "bound_of" s_bound_of f fd) : Binds K fd ["items", "room", "leaf"] [] := F.binds (ps := ["items", "room", "leaf"]) fun _ _ _ _ _ _ us hl => match us, hl with | [_, _, _], _ => rfl
theorem bd_closes {f : Addr} {fd : FuncData} (F : Fun K "closes" "closes" s_closes f fd) : Binds K fd ["items", "room", "worth", "leaf"] [] := F.binds (ps := ["items", "room", "worth", "leaf"]) fun _ _ _ _ _ _ us hl => match us, hl with | [_, _, _, _], _ => rfl
theorem bd_taking_at {f : Addr} {fd : FuncData} (F : Fun K "taking_at" "taking_at" s_taking_at f fd) : Binds K fd ["items", "decided", "p", "q"] [] := F.binds (ps := ["items", "decided", "p", "q"]) fun _ _ _ _ _ _ us hl => match us, hl with | [_, _, _, _], _ => rfl
theorem bd_line_of {f : Addr} {fd : FuncData} (F : Fun K "line_of" "line_of" s_line_of f fd) : Binds K fd ["items", "room", "taken"] [] := F.binds (ps := ["items", "room", "taken"]) fun _ _ _ _ _ _ us hl => match us, hl with | [_, _, _], _ => rfl
theorem bd_best {f : Addr} {fd : FuncData} (F : FunD K "best" "best" (defArgs s_best) (defBody s_best) (defScope s_best) [] [("room", .int 60)] f fd) : ∀ q ∈ ways_best, KBx K fd ["items", "room"] q.1 q.2.1 q.2.2 :=
  (List.forall_mem_cons.mpr ⟨(kbx_of F 1 ["room"] [] [.p 0, .k 0] (by simp) (by simp) (fun D doc pm an cdv ct us mv ws h1 h2 h3 => match us, mv, ws, h1, h2, h3 with | [_], [], [_], _, _, _ => rfl) (fun _ _ => rfl)), (List.forall_mem_cons.mpr ⟨(kbx_of F 1 [] [("room", .int 60)] [.p 0, .c 0 (.int 60)] (by simp) (by simp) (fun D doc pm an cdv ct us mv ws h1 h2 h3 => match us, mv, ws, h1, h2, h3 with | [_], [_], [], _, _, _ => ⟨_, _, _, _, _, _, rfl, rfl, rfl⟩) (fun _ _ => rfl)), (fun _ h => nomatch h)⟩)⟩)
theorem bd__law_bag {f : Addr} {fd : FuncData} (F : Fun K "_law_bag" "_law_bag" s__law_bag f fd) : Binds K fd ["_law_script"] [] := F.binds (ps := ["_law_script"]) fun _ _ _ _ _ _ us hl => match us, hl with | [_], _ => rfl
theorem bd__law_take {f : Addr} {fd : FuncData} (F : Fun K "_law_take" "_law_take" s__law_take f fd) : Binds K fd ["_law_bag_here", "_law_many"] [] := F.binds (ps := ["_law_bag_here", "_law_many"]) fun _ _ _ _ _ _ us hl => match us, hl with | [_, _], _ => rfl
theorem bd__law_items {f : Addr} {fd : FuncData} (F : Fun K "_law_items" "_law_items" s__law_items f fd) : Binds K fd ["_law_bag_here", "_law_many"] [] := F.binds (ps := ["_law_bag_here", "_law_many"]) fun _ _ _ _ _ _ us hl => match us, hl with | [_, _], _ => rfl
theorem bd__law_room {f : Addr} {fd : FuncData} (F : Fun K "_law_room" "_law_room" s__law_room f fd) : Binds K fd ["_law_bag_here"] [] := F.binds (ps := ["_law_bag_here"]) fun _ _ _ _ _ _ us hl => match us, hl with | [_], _ => rfl
theorem bd__law_takings {f : Addr} {fd : FuncData} (F : Fun K "_law_takings" "_law_takings" s__law_takings f fd) : Binds K fd ["_law_items_here"] [] := F.binds (ps := ["_law_items_here"]) fun _ _ _ _ _ _ us hl => match us, hl with | [_], _ => rfl
theorem bd__law_due {f : Addr} {fd : FuncData} (F : Fun K "_law_due" "_law_due" s__law_due f fd) : Binds K fd ["_law_items_here", "_law_wide"] [] := F.binds (ps := ["_law_items_here", "_law_wide"]) fun _ _ _ _ _ _ us hl => match us, hl with | [_, _], _ => rfl
theorem bd_law {f : Addr} {fd : FuncData} (F : Fun K "law" "law" s_law f fd) : Binds K fd ["_law_script"] [] := F.binds (ps := ["_law_script"]) fun _ _ _ _ _ _ us hl => match us, hl with | [_], _ => rfl
theorem bd_Search____init__ {f : Addr} {fd : FuncData} (F : Fun K "__init__" "Search.__init__" s_Search____init__ f fd) : Binds K fd ["self", "items", "room"] [] := F.binds (ps := ["self", "items", "room"]) fun _ _ _ _ _ _ us hl => match us, hl with | [_, _, _], _ => rfl
theorem bd_Search__note {f : Addr} {fd : FuncData} (F : Fun K "note" "Search.note" s_Search__note f fd) : Binds K fd ["self", "taken"] [] := F.binds (ps := ["self", "taken"]) fun _ _ _ _ _ _ us hl => match us, hl with | [_, _], _ => rfl
theorem bd_Search__try_rate {f : Addr} {fd : FuncData} (F : Fun K "try_rate" "Search.try_rate" s_Search__try_rate f fd) : Binds K fd ["self", "decided", "p", "q"] [] := F.binds (ps := ["self", "decided", "p", "q"]) fun _ _ _ _ _ _ us hl => match us, hl with | [_, _, _, _], _ => rfl
theorem bd_Search__is_closed {f : Addr} {fd : FuncData} (F : Fun K "is_closed" "Search.is_closed" s_Search__is_closed f fd) : Binds K fd ["self", "decided"] [] := F.binds (ps := ["self", "decided"]) fun _ _ _ _ _ _ us hl => match us, hl with | [_, _], _ => rfl
theorem cs (T : Fs w K mg) : ∀ n, Cs P w K mg base n (den n)
  | 0 => {
    c_is_whole := let ⟨_, _, F, m⟩ := T.f_is_whole; fnD_zero F m (bd_is_whole F)
    c_is_from_to := let ⟨_, _, F, m⟩ := T.f_is_from_to; fnD_zero F m (bd_is_from_to F)
    c_is_item := let ⟨_, _, F, m⟩ := T.f_is_item; fnD_zero F m (bd_is_item F)
    c_look_at := let ⟨_, _, F, m⟩ := T.f_look_at; fnD_zero F m (bd_look_at F)
    c_may_take := let ⟨_, _, F, m⟩ := T.f_may_take; fnD_zero F m (bd_may_take F)
    c_free_items := let ⟨_, _, F, m⟩ := T.f_free_items; fnD_zero F m (bd_free_items F)
    c_tops := let ⟨_, _, F, m⟩ := T.f_tops; fnD_zero F m (bd_tops F)
    c_bound_of := let ⟨_, _, F, m⟩ := T.f_bound_of; fnD_zero F m (bd_bound_of F)
    c_closes := let ⟨_, _, F, m⟩ := T.f_closes; fnD_zero F m (bd_closes F)
    c_taking_at := let ⟨_, _, F, m⟩ := T.f_taking_at; fnD_zero F m (bd_taking_at F)
    c_line_of := let ⟨_, _, F, m⟩ := T.f_line_of; fnD_zero F m (bd_line_of F)
    c_best := let ⟨_, _, F, m⟩ := T.f_best; ⟨_, _, _, rfl, fnG_zero rfl, m, F.kp, bd_best F⟩
    c__law_bag := let ⟨_, _, F, m⟩ := T.f__law_bag; fnD_zero F m (bd__law_bag F)
    c__law_take := let ⟨_, _, F, m⟩ := T.f__law_take; fnD_zero F m (bd__law_take F)
    c__law_items := let ⟨_, _, F, m⟩ := T.f__law_items; fnD_zero F m (bd__law_items F)
    c__law_room := let ⟨_, _, F, m⟩ := T.f__law_room; fnD_zero F m (bd__law_room F)
    c__law_takings := let ⟨_, _, F, m⟩ := T.f__law_takings; fnD_zero F m (bd__law_takings F)
    c__law_due := let ⟨_, _, F, m⟩ := T.f__law_due; fnD_zero F m (bd__law_due F)
    c_law := let ⟨_, _, F, m⟩ := T.f_law; fnD_zero F m (bd_law F)
    n_Search := let ⟨_, _, _, F, m, hm⟩ := T.f_Search____init__; fnN_zero F m hm (bd_Search____init__ F)
    i_Search := fnI_zero
    c_Search__note := let ⟨_, _, _, F, m, hc, hm⟩ := T.f_Search__note; fnM_zero F m hc hm (bd_Search__note F)
    c_Search__try_rate := let ⟨_, _, _, F, m, hc, hm⟩ := T.f_Search__try_rate; fnM_zero F m hc hm (bd_Search__try_rate F)
    c_Search__is_closed := let ⟨_, _, _, F, m, hc, hm⟩ := T.f_Search__is_closed; fnM_zero F m hc hm (bd_Search__is_closed F)
  }
  | n + 1 => {
    c_is_whole := let ⟨_, _, F, m⟩ := T.f_is_whole; ⟨_, _, _, rfl, den_is_whole n ▸ ok_is_whole F T.G (cs T n), m, F.kp, bd_is_whole F⟩
    c_is_from_to := let ⟨_, _, F, m⟩ := T.f_is_from_to; ⟨_, _, _, rfl, den_is_from_to n ▸ ok_is_from_to F T.G (cs T n), m, F.kp, bd_is_from_to F⟩
    c_is_item := let ⟨_, _, F, m⟩ := T.f_is_item; ⟨_, _, _, rfl, den_is_item n ▸ ok_is_item F T.G (cs T n), m, F.kp, bd_is_item F⟩
    c_look_at := let ⟨_, _, F, m⟩ := T.f_look_at; ⟨_, _, _, rfl, den_look_at n ▸ ok_look_at F T.G (cs T n), m, F.kp, bd_look_at F⟩
    c_may_take := let ⟨_, _, F, m⟩ := T.f_may_take; ⟨_, _, _, rfl, den_may_take n ▸ ok_may_take F T.G (cs T n), m, F.kp, bd_may_take F⟩
    c_free_items := let ⟨_, _, F, m⟩ := T.f_free_items; ⟨_, _, _, rfl, den_free_items n ▸ ok_free_items F T.G (cs T n), m, F.kp, bd_free_items F⟩
    c_tops := let ⟨_, _, F, m⟩ := T.f_tops; ⟨_, _, _, rfl, den_tops n ▸ ok_tops F T.G (cs T n), m, F.kp, bd_tops F⟩
    c_bound_of := let ⟨_, _, F, m⟩ := T.f_bound_of; ⟨_, _, _, rfl, den_bound_of n ▸ ok_bound_of F T.G (cs T n), m, F.kp, bd_bound_of F⟩
    c_closes := let ⟨_, _, F, m⟩ := T.f_closes; ⟨_, _, _, rfl, den_closes n ▸ ok_closes F T.G (cs T n), m, F.kp, bd_closes F⟩
    c_taking_at := let ⟨_, _, F, m⟩ := T.f_taking_at; ⟨_, _, _, rfl, den_taking_at n ▸ ok_taking_at F T.G (cs T n), m, F.kp, bd_taking_at F⟩
    c_line_of := let ⟨_, _, F, m⟩ := T.f_line_of; ⟨_, _, _, rfl, den_line_of n ▸ ok_line_of F T.G (cs T n), m, F.kp, bd_line_of F⟩
    c_best := let ⟨_, _, F, m⟩ := T.f_best; ⟨_, _, _, rfl, den_best n ▸ ok_best (toVD F) T.G (cs T n), m, F.kp, bd_best F⟩
    c__law_bag := let ⟨_, _, F, m⟩ := T.f__law_bag; ⟨_, _, _, rfl, den__law_bag n ▸ ok__law_bag F T.G (cs T n), m, F.kp, bd__law_bag F⟩
    c__law_take := let ⟨_, _, F, m⟩ := T.f__law_take; ⟨_, _, _, rfl, den__law_take n ▸ ok__law_take F T.G (cs T n), m, F.kp, bd__law_take F⟩
    c__law_items := let ⟨_, _, F, m⟩ := T.f__law_items; ⟨_, _, _, rfl, den__law_items n ▸ ok__law_items F T.G (cs T n), m, F.kp, bd__law_items F⟩
    c__law_room := let ⟨_, _, F, m⟩ := T.f__law_room; ⟨_, _, _, rfl, den__law_room n ▸ ok__law_room F T.G (cs T n), m, F.kp, bd__law_room F⟩
    c__law_takings := let ⟨_, _, F, m⟩ := T.f__law_takings; ⟨_, _, _, rfl, den__law_takings n ▸ ok__law_takings F T.G (cs T n), m, F.kp, bd__law_takings F⟩
    c__law_due := let ⟨_, _, F, m⟩ := T.f__law_due; ⟨_, _, _, rfl, den__law_due n ▸ ok__law_due F T.G (cs T n), m, F.kp, bd__law_due F⟩
    c_law := let ⟨_, _, F, m⟩ := T.f_law; ⟨_, _, _, rfl, den_law n ▸ ok_law F T.G (cs T n), m, F.kp, bd_law F⟩
    n_Search := let ⟨_, _, _, F, m, hm⟩ := T.f_Search____init__; ⟨_, _, _, _, m, hm, rfl, den_Search____init__ n ▸ ok_Search____init__ F T.G (cs T n), bd_Search____init__ F⟩
    i_Search := den_Search n ▸ (cs T n).n_Search.maker
    c_Search__note := let ⟨_, _, _, F, m, hc, hm⟩ := T.f_Search__note; ⟨_, _, _, _, m, hc, hm, rfl, den_Search__note n ▸ ok_Search__note F T.G (cs T n), bd_Search__note F⟩
    c_Search__try_rate := let ⟨_, _, _, F, m, hc, hm⟩ := T.f_Search__try_rate; ⟨_, _, _, _, m, hc, hm, rfl, den_Search__try_rate n ▸ ok_Search__try_rate F T.G (cs T n), bd_Search__try_rate F⟩
    c_Search__is_closed := let ⟨_, _, _, F, m, hc, hm⟩ := T.f_Search__is_closed; ⟨_, _, _, _, m, hc, hm, rfl, den_Search__is_closed n ▸ ok_Search__is_closed F T.G (cs T n), bd_Search__is_closed F⟩
  }
end
theorem all_mk {l : PySem.W.OpenLaw} {w : World} {K : PySem.W.Frag} {h : Heap} {mg : Str → Option Value} {fa : Addr} {N : Nat} (X : K.In h) (G : h.Ns mainGlobals mg) (hfa : mg "law" = some (.ref fa))
    {C0 : Addr} (aC0 : PySem.W.nsIn K mainGlobals "Search" = some (some (.ref C0))) (kC0 : PySem.W.keepIn K (.ref C0) = true) (pg0 : PySem.W.plainGet K C0 Str.empty = true) (hd0 : PySem.W.hasDictIn K C0 = true) (po0 : PySem.W.plainOver K C0 = true) (sa0 : PySem.W.findIn K (.ref C0) "__setattr__" = some (some (.builtin "object.__setattr__"))) (mk0 : PySem.W.makesIn K C0 = true)
    (na0_held : PySem.W.findIn K (.ref C0) "held" = some none)
    (na0_leaves : PySem.W.findIn K (.ref C0) "leaves" = some none)
    (na0_room : PySem.W.findIn K (.ref C0) "room" = some none)
    (na0_rows : PySem.W.findIn K (.ref C0) "rows" = some none)
    (na0_worth : PySem.W.findIn K (.ref C0) "worth" = some none)
    {f1 : Addr} {od1 an1 : Option Addr} {sl1 : Array (Option Value)} {oc1 kV1 dc1 pm1 cd1 ct1 : Value}
    (a1 : PySem.W.nsIn K mainGlobals "is_whole" = some (some (.ref f1))) (l1 : K.lookup f1 = some ⟨oc1, od1, .func (PySem.W.fnOf "is_whole" "is_whole" (defArgs s_is_whole) (defBody s_is_whole) (defScope s_is_whole) .none kV1 dc1 pm1 an1 cd1 ct1), sl1⟩) (c1 : PySem.W.codeIn K cd1 "is_whole" = true) (k1 : PySem.W.keepIn K (.ref f1) = true)
    {f2 : Addr} {od2 an2 : Option Addr} {sl2 : Array (Option Value)} {oc2 kV2 dc2 pm2 cd2 ct2 : Value}
    (a2 : PySem.W.nsIn K mainGlobals "is_from_to" = some (some (.ref f2))) (l2 : K.lookup f2 = some ⟨oc2, od2, .func (PySem.W.fnOf "is_from_to" "is_from_to" (defArgs s_is_from_to) (defBody s_is_from_to) (defScope s_is_from_to) .none kV2 dc2 pm2 an2 cd2 ct2), sl2⟩) (c2 : PySem.W.codeIn K cd2 "is_from_to" = true) (k2 : PySem.W.keepIn K (.ref f2) = true)
    {f3 : Addr} {od3 an3 : Option Addr} {sl3 : Array (Option Value)} {oc3 kV3 dc3 pm3 cd3 ct3 : Value}
    (a3 : PySem.W.nsIn K mainGlobals "is_item" = some (some (.ref f3))) (l3 : K.lookup f3 = some ⟨oc3, od3, .func (PySem.W.fnOf "is_item" "is_item" (defArgs s_is_item) (defBody s_is_item) (defScope s_is_item) .none kV3 dc3 pm3 an3 cd3 ct3), sl3⟩) (c3 : PySem.W.codeIn K cd3 "is_item" = true) (k3 : PySem.W.keepIn K (.ref f3) = true)
    {f4 : Addr} {od4 an4 : Option Addr} {sl4 : Array (Option Value)} {oc4 kV4 dc4 pm4 cd4 ct4 : Value}
    (a4 : PySem.W.nsIn K mainGlobals "look_at" = some (some (.ref f4))) (l4 : K.lookup f4 = some ⟨oc4, od4, .func (PySem.W.fnOf "look_at" "look_at" (defArgs s_look_at) (defBody s_look_at) (defScope s_look_at) .none kV4 dc4 pm4 an4 cd4 ct4), sl4⟩) (c4 : PySem.W.codeIn K cd4 "look_at" = true) (k4 : PySem.W.keepIn K (.ref f4) = true)
    {f5 : Addr} {od5 an5 : Option Addr} {sl5 : Array (Option Value)} {oc5 kV5 dc5 pm5 cd5 ct5 : Value}
    (a5 : PySem.W.nsIn K mainGlobals "may_take" = some (some (.ref f5))) (l5 : K.lookup f5 = some ⟨oc5, od5, .func (PySem.W.fnOf "may_take" "may_take" (defArgs s_may_take) (defBody s_may_take) (defScope s_may_take) .none kV5 dc5 pm5 an5 cd5 ct5), sl5⟩) (c5 : PySem.W.codeIn K cd5 "may_take" = true) (k5 : PySem.W.keepIn K (.ref f5) = true)
    {f6 : Addr} {od6 an6 : Option Addr} {sl6 : Array (Option Value)} {oc6 kV6 dc6 pm6 cd6 ct6 : Value}
    (a6 : PySem.W.nsIn K mainGlobals "free_items" = some (some (.ref f6))) (l6 : K.lookup f6 = some ⟨oc6, od6, .func (PySem.W.fnOf "free_items" "free_items" (defArgs s_free_items) (defBody s_free_items) (defScope s_free_items) .none kV6 dc6 pm6 an6 cd6 ct6), sl6⟩) (c6 : PySem.W.codeIn K cd6 "free_items" = true) (k6 : PySem.W.keepIn K (.ref f6) = true)
    {f7 : Addr} {od7 an7 : Option Addr} {sl7 : Array (Option Value)} {oc7 kV7 dc7 pm7 cd7 ct7 : Value}
    (a7 : PySem.W.nsIn K mainGlobals "tops" = some (some (.ref f7))) (l7 : K.lookup f7 = some ⟨oc7, od7, .func (PySem.W.fnOf "tops" "tops" (defArgs s_tops) (defBody s_tops) (defScope s_tops) .none kV7 dc7 pm7 an7 cd7 ct7), sl7⟩) (c7 : PySem.W.codeIn K cd7 "tops" = true) (k7 : PySem.W.keepIn K (.ref f7) = true)
    {f8 : Addr} {od8 an8 : Option Addr} {sl8 : Array (Option Value)} {oc8 kV8 dc8 pm8 cd8 ct8 : Value}
    (a8 : PySem.W.nsIn K mainGlobals "bound_of" = some (some (.ref f8))) (l8 : K.lookup f8 = some ⟨oc8, od8, .func (PySem.W.fnOf "bound_of" "bound_of" (defArgs s_bound_of) (defBody s_bound_of) (defScope s_bound_of) .none kV8 dc8 pm8 an8 cd8 ct8), sl8⟩) (c8 : PySem.W.codeIn K cd8 "bound_of" = true) (k8 : PySem.W.keepIn K (.ref f8) = true)
    {f9 : Addr} {od9 an9 : Option Addr} {sl9 : Array (Option Value)} {oc9 kV9 dc9 pm9 cd9 ct9 : Value}
    (a9 : PySem.W.nsIn K mainGlobals "closes" = some (some (.ref f9))) (l9 : K.lookup f9 = some ⟨oc9, od9, .func (PySem.W.fnOf "closes" "closes" (defArgs s_closes) (defBody s_closes) (defScope s_closes) .none kV9 dc9 pm9 an9 cd9 ct9), sl9⟩) (c9 : PySem.W.codeIn K cd9 "closes" = true) (k9 : PySem.W.keepIn K (.ref f9) = true)
    {f10 : Addr} {od10 an10 : Option Addr} {sl10 : Array (Option Value)} {oc10 kV10 dc10 pm10 cd10 ct10 : Value}
    (a10 : PySem.W.nsIn K mainGlobals "taking_at" = some (some (.ref f10))) (l10 : K.lookup f10 = some ⟨oc10, od10, .func (PySem.W.fnOf "taking_at" "taking_at" (defArgs s_taking_at) (defBody s_taking_at) (defScope s_taking_at) .none kV10 dc10 pm10 an10 cd10 ct10), sl10⟩) (c10 : PySem.W.codeIn K cd10 "taking_at" = true) (k10 : PySem.W.keepIn K (.ref f10) = true)
    {f11 : Addr} {od11 an11 : Option Addr} {sl11 : Array (Option Value)} {oc11 kV11 dc11 pm11 cd11 ct11 : Value}
    (a11 : PySem.W.nsIn K mainGlobals "line_of" = some (some (.ref f11))) (l11 : K.lookup f11 = some ⟨oc11, od11, .func (PySem.W.fnOf "line_of" "line_of" (defArgs s_line_of) (defBody s_line_of) (defScope s_line_of) .none kV11 dc11 pm11 an11 cd11 ct11), sl11⟩) (c11 : PySem.W.codeIn K cd11 "line_of" = true) (k11 : PySem.W.keepIn K (.ref f11) = true)
    {f12 kD12 : Addr} {od12 an12 : Option Addr} {sl12 : Array (Option Value)} {oc12 dc12 pm12 cd12 ct12 : Value}
    (a12 : PySem.W.nsIn K mainGlobals "best" = some (some (.ref f12))) (l12 : K.lookup f12 = some ⟨oc12, od12, .func (PySem.W.fnOf "best" "best" (defArgs s_best) (defBody s_best) (defScope s_best) .none (.ref kD12) dc12 pm12 an12 cd12 ct12), sl12⟩) (c12 : PySem.W.codeIn K cd12 "best" = true) (k12 : PySem.W.keepIn K (.ref f12) = true) {kt12_room : Tok} (kd12_room : PySem.W.nsIn K kD12 "room" = some (some (.int 60 kt12_room)))
    {f13 : Addr} {od13 an13 : Option Addr} {sl13 : Array (Option Value)} {oc13 kV13 dc13 pm13 cd13 ct13 : Value}
    (a13 : PySem.W.nsIn K mainGlobals "_law_bag" = some (some (.ref f13))) (l13 : K.lookup f13 = some ⟨oc13, od13, .func (PySem.W.fnOf "_law_bag" "_law_bag" (defArgs s__law_bag) (defBody s__law_bag) (defScope s__law_bag) .none kV13 dc13 pm13 an13 cd13 ct13), sl13⟩) (c13 : PySem.W.codeIn K cd13 "_law_bag" = true) (k13 : PySem.W.keepIn K (.ref f13) = true)
    {f14 : Addr} {od14 an14 : Option Addr} {sl14 : Array (Option Value)} {oc14 kV14 dc14 pm14 cd14 ct14 : Value}
    (a14 : PySem.W.nsIn K mainGlobals "_law_take" = some (some (.ref f14))) (l14 : K.lookup f14 = some ⟨oc14, od14, .func (PySem.W.fnOf "_law_take" "_law_take" (defArgs s__law_take) (defBody s__law_take) (defScope s__law_take) .none kV14 dc14 pm14 an14 cd14 ct14), sl14⟩) (c14 : PySem.W.codeIn K cd14 "_law_take" = true) (k14 : PySem.W.keepIn K (.ref f14) = true)
    {f15 : Addr} {od15 an15 : Option Addr} {sl15 : Array (Option Value)} {oc15 kV15 dc15 pm15 cd15 ct15 : Value}
    (a15 : PySem.W.nsIn K mainGlobals "_law_items" = some (some (.ref f15))) (l15 : K.lookup f15 = some ⟨oc15, od15, .func (PySem.W.fnOf "_law_items" "_law_items" (defArgs s__law_items) (defBody s__law_items) (defScope s__law_items) .none kV15 dc15 pm15 an15 cd15 ct15), sl15⟩) (c15 : PySem.W.codeIn K cd15 "_law_items" = true) (k15 : PySem.W.keepIn K (.ref f15) = true)
    {f16 : Addr} {od16 an16 : Option Addr} {sl16 : Array (Option Value)} {oc16 kV16 dc16 pm16 cd16 ct16 : Value}
    (a16 : PySem.W.nsIn K mainGlobals "_law_room" = some (some (.ref f16))) (l16 : K.lookup f16 = some ⟨oc16, od16, .func (PySem.W.fnOf "_law_room" "_law_room" (defArgs s__law_room) (defBody s__law_room) (defScope s__law_room) .none kV16 dc16 pm16 an16 cd16 ct16), sl16⟩) (c16 : PySem.W.codeIn K cd16 "_law_room" = true) (k16 : PySem.W.keepIn K (.ref f16) = true)
    {f17 : Addr} {od17 an17 : Option Addr} {sl17 : Array (Option Value)} {oc17 kV17 dc17 pm17 cd17 ct17 : Value}
    (a17 : PySem.W.nsIn K mainGlobals "_law_takings" = some (some (.ref f17))) (l17 : K.lookup f17 = some ⟨oc17, od17, .func (PySem.W.fnOf "_law_takings" "_law_takings" (defArgs s__law_takings) (defBody s__law_takings) (defScope s__law_takings) .none kV17 dc17 pm17 an17 cd17 ct17), sl17⟩) (c17 : PySem.W.codeIn K cd17 "_law_takings" = true) (k17 : PySem.W.keepIn K (.ref f17) = true)
    {f18 : Addr} {od18 an18 : Option Addr} {sl18 : Array (Option Value)} {oc18 kV18 dc18 pm18 cd18 ct18 : Value}
    (a18 : PySem.W.nsIn K mainGlobals "_law_due" = some (some (.ref f18))) (l18 : K.lookup f18 = some ⟨oc18, od18, .func (PySem.W.fnOf "_law_due" "_law_due" (defArgs s__law_due) (defBody s__law_due) (defScope s__law_due) .none kV18 dc18 pm18 an18 cd18 ct18), sl18⟩) (c18 : PySem.W.codeIn K cd18 "_law_due" = true) (k18 : PySem.W.keepIn K (.ref f18) = true)
    {f19 : Addr} {od19 an19 : Option Addr} {sl19 : Array (Option Value)} {oc19 kV19 dc19 pm19 cd19 ct19 : Value}
    (a19 : PySem.W.nsIn K mainGlobals "law" = some (some (.ref f19))) (l19 : K.lookup f19 = some ⟨oc19, od19, .func (PySem.W.fnOf "law" "law" (defArgs s_law) (defBody s_law) (defScope s_law) .none kV19 dc19 pm19 an19 cd19 ct19), sl19⟩) (c19 : PySem.W.codeIn K cd19 "law" = true) (k19 : PySem.W.keepIn K (.ref f19) = true)
    {f20 : Addr} {od20 an20 : Option Addr} {sl20 : Array (Option Value)} {oc20 kV20 dc20 pm20 cd20 ct20 : Value}
    (a20 : PySem.W.findIn K (.ref C0) "__init__" = some (some (.ref f20))) (i20 : PySem.W.isFn K (.ref f20) = true) (l20 : K.lookup f20 = some ⟨oc20, od20, .func (PySem.W.fnOf "__init__" "Search.__init__" (defArgs s_Search____init__) (defBody s_Search____init__) (defScope s_Search____init__) .none kV20 dc20 pm20 an20 cd20 ct20), sl20⟩) (c20 : PySem.W.codeIn K cd20 "Search.__init__" = true) (k20 : PySem.W.keepIn K (.ref f20) = true)
    {f21 : Addr} {od21 an21 : Option Addr} {sl21 : Array (Option Value)} {oc21 kV21 dc21 pm21 cd21 ct21 : Value}
    (a21 : PySem.W.findIn K (.ref C0) "note" = some (some (.ref f21))) (i21 : PySem.W.isFn K (.ref f21) = true) (l21 : K.lookup f21 = some ⟨oc21, od21, .func (PySem.W.fnOf "note" "Search.note" (defArgs s_Search__note) (defBody s_Search__note) (defScope s_Search__note) .none kV21 dc21 pm21 an21 cd21 ct21), sl21⟩) (c21 : PySem.W.codeIn K cd21 "Search.note" = true) (k21 : PySem.W.keepIn K (.ref f21) = true)
    {f22 : Addr} {od22 an22 : Option Addr} {sl22 : Array (Option Value)} {oc22 kV22 dc22 pm22 cd22 ct22 : Value}
    (a22 : PySem.W.findIn K (.ref C0) "try_rate" = some (some (.ref f22))) (i22 : PySem.W.isFn K (.ref f22) = true) (l22 : K.lookup f22 = some ⟨oc22, od22, .func (PySem.W.fnOf "try_rate" "Search.try_rate" (defArgs s_Search__try_rate) (defBody s_Search__try_rate) (defScope s_Search__try_rate) .none kV22 dc22 pm22 an22 cd22 ct22), sl22⟩) (c22 : PySem.W.codeIn K cd22 "Search.try_rate" = true) (k22 : PySem.W.keepIn K (.ref f22) = true)
    {f23 : Addr} {od23 an23 : Option Addr} {sl23 : Array (Option Value)} {oc23 kV23 dc23 pm23 cd23 ct23 : Value}
    (a23 : PySem.W.findIn K (.ref C0) "is_closed" = some (some (.ref f23))) (i23 : PySem.W.isFn K (.ref f23) = true) (l23 : K.lookup f23 = some ⟨oc23, od23, .func (PySem.W.fnOf "is_closed" "Search.is_closed" (defArgs s_Search__is_closed) (defBody s_Search__is_closed) (defScope s_Search__is_closed) .none kV23 dc23 pm23 an23 cd23 ct23), sl23⟩) (c23 : PySem.W.codeIn K cd23 "Search.is_closed" = true) (k23 : PySem.W.keepIn K (.ref f23) = true)
    (z1 : PySem.W.nsIn K mainGlobals "abs" = some none)
    (z2 : PySem.W.nsIn K mainGlobals "bool" = some none)
    (z3 : PySem.W.nsIn K mainGlobals "enumerate" = some none)
    (z4 : PySem.W.nsIn K mainGlobals "int" = some none)
    (z5 : PySem.W.nsIn K mainGlobals "isinstance" = some none)
    (z6 : PySem.W.nsIn K mainGlobals "len" = some none)
    (z7 : PySem.W.nsIn K mainGlobals "list" = some none)
    (z8 : PySem.W.nsIn K mainGlobals "max" = some none)
    (z9 : PySem.W.nsIn K mainGlobals "range" = some none)
    (z10 : PySem.W.nsIn K mainGlobals "repr" = some none)
    (z11 : PySem.W.nsIn K mainGlobals "sorted" = some none)
    (z12 : PySem.W.nsIn K mainGlobals "sum" = some none)
    (z13 : PySem.W.nsIn K mainGlobals "tuple" = some none)
    {t14 : Tok} (z14 : PySem.W.nsIn K mainGlobals "MOST_ITEMS" = some (some (.int (10) t14)))
    {t15 : Tok} (z15 : PySem.W.nsIn K mainGlobals "MOST_WORTH" = some (some (.int (1000000000) t15)))
    {t16 : Tok} (z16 : PySem.W.nsIn K mainGlobals "MOST_WEIGHT" = some (some (.int (40) t16)))
    {t17 : Tok} (z17 : PySem.W.nsIn K mainGlobals "STEEP" = some (some (.int (10000000001) t17)))
    {t18 : Tok} (z18 : PySem.W.nsIn K mainGlobals "MOST_TURNS" = some (some (.int (60) t18)))
    : ∃ fd : FuncData, (∀ (s : Shared) (v : Value), BindsTo s fd ⟨[v], []⟩ [("_law_script", v)]) ∧ ∀ base : Heap, K.In base → base.Ns mainGlobals mg → FnG l.prog w K mg base (N + 1) fa fd ["_law_script"] (spA K 1 (g_law (den N))) := by
  have e := hfa.symm.trans (PySem.W.mg_of X G a19)
  cases e
  have T : Fs w K mg := {
    G := { n_abs := PySem.W.mg_none_of X G z1, n_bool := PySem.W.mg_none_of X G z2, n_enumerate := PySem.W.mg_none_of X G z3, n_int := PySem.W.mg_none_of X G z4, n_isinstance := PySem.W.mg_none_of X G z5, n_len := PySem.W.mg_none_of X G z6, n_list := PySem.W.mg_none_of X G z7, n_max := PySem.W.mg_none_of X G z8, n_range := PySem.W.mg_none_of X G z9, n_repr := PySem.W.mg_none_of X G z10, n_sorted := PySem.W.mg_none_of X G z11, n_sum := PySem.W.mg_none_of X G z12, n_tuple := PySem.W.mg_none_of X G z13, g_MOST_ITEMS := globD_int (PySem.W.mg_of X G z14), g_MOST_WORTH := globD_int (PySem.W.mg_of X G z15), g_MOST_WEIGHT := globD_int (PySem.W.mg_of X G z16), g_STEEP := globD_int (PySem.W.mg_of X G z17), g_MOST_TURNS := globD_int (PySem.W.mg_of X G z18), a_Search_held := clF_of (PySem.W.mg_of X G aC0) ⟨pg0, hd0, po0, sa0⟩ na0_held, a_Search_leaves := clF_of (PySem.W.mg_of X G aC0) ⟨pg0, hd0, po0, sa0⟩ na0_leaves, a_Search_room := clF_of (PySem.W.mg_of X G aC0) ⟨pg0, hd0, po0, sa0⟩ na0_room, a_Search_rows := clF_of (PySem.W.mg_of X G aC0) ⟨pg0, hd0, po0, sa0⟩ na0_rows, a_Search_worth := clF_of (PySem.W.mg_of X G aC0) ⟨pg0, hd0, po0, sa0⟩ na0_worth }
    f_is_whole := ⟨_, _, fun_mk (st := s_is_whole) l1 c1 k1, PySem.W.mg_of X G a1⟩
    f_is_from_to := ⟨_, _, fun_mk (st := s_is_from_to) l2 c2 k2, PySem.W.mg_of X G a2⟩
    f_is_item := ⟨_, _, fun_mk (st := s_is_item) l3 c3 k3, PySem.W.mg_of X G a3⟩
    f_look_at := ⟨_, _, fun_mk (st := s_look_at) l4 c4 k4, PySem.W.mg_of X G a4⟩
    f_may_take := ⟨_, _, fun_mk (st := s_may_take) l5 c5 k5, PySem.W.mg_of X G a5⟩
    f_free_items := ⟨_, _, fun_mk (st := s_free_items) l6 c6 k6, PySem.W.mg_of X G a6⟩
    f_tops := ⟨_, _, fun_mk (st := s_tops) l7 c7 k7, PySem.W.mg_of X G a7⟩
    f_bound_of := ⟨_, _, fun_mk (st := s_bound_of) l8 c8 k8, PySem.W.mg_of X G a8⟩
    f_closes := ⟨_, _, fun_mk (st := s_closes) l9 c9 k9, PySem.W.mg_of X G a9⟩
    f_taking_at := ⟨_, _, fun_mk (st := s_taking_at) l10 c10 k10, PySem.W.mg_of X G a10⟩
    f_line_of := ⟨_, _, fun_mk (st := s_line_of) l11 c11 k11, PySem.W.mg_of X G a11⟩
    f_best := ⟨_, _, funD_mk (st := s_best) l12 c12 k12 (List.forall_mem_cons.mpr ⟨⟨_, kd12_room, ⟨_, rfl⟩⟩, (fun _ h => nomatch h)⟩), PySem.W.mg_of X G a12⟩
    f__law_bag := ⟨_, _, fun_mk (st := s__law_bag) l13 c13 k13, PySem.W.mg_of X G a13⟩
    f__law_take := ⟨_, _, fun_mk (st := s__law_take) l14 c14 k14, PySem.W.mg_of X G a14⟩
    f__law_items := ⟨_, _, fun_mk (st := s__law_items) l15 c15 k15, PySem.W.mg_of X G a15⟩
    f__law_room := ⟨_, _, fun_mk (st := s__law_room) l16 c16 k16, PySem.W.mg_of X G a16⟩
    f__law_takings := ⟨_, _, fun_mk (st := s__law_takings) l17 c17 k17, PySem.W.mg_of X G a17⟩
    f__law_due := ⟨_, _, fun_mk (st := s__law_due) l18 c18 k18, PySem.W.mg_of X G a18⟩
    f_law := ⟨_, _, fun_mk (st := s_law) l19 c19 k19, PySem.W.mg_of X G a19⟩
    f_Search____init__ := ⟨_, _, _, fun_mk (st := s_Search____init__) l20 c20 k20, PySem.W.mg_of X G aC0, ⟨mk0, a20, i20, kC0⟩⟩
    f_Search__note := ⟨_, _, _, fun_mk (st := s_Search__note) l21 c21 k21, PySem.W.mg_of X G aC0, ⟨pg0, hd0, po0, sa0⟩, ⟨a21, i21, k21⟩⟩
    f_Search__try_rate := ⟨_, _, _, fun_mk (st := s_Search__try_rate) l22 c22 k22, PySem.W.mg_of X G aC0, ⟨pg0, hd0, po0, sa0⟩, ⟨a22, i22, k22⟩⟩
    f_Search__is_closed := ⟨_, _, _, fun_mk (st := s_Search__is_closed) l23 c23 k23, PySem.W.mg_of X G aC0, ⟨pg0, hd0, po0, sa0⟩, ⟨a23, i23, k23⟩⟩
  }
  exact ⟨PySem.W.fnOf "law" "law" (defArgs s_law) (defBody s_law) (defScope s_law) .none kV19 dc19 pm19 an19 cd19 ct19, fun s v => .of_eq rfl, fun base _ _ => (ok_law (fun_mk (st := s_law) l19 c19 k19) T.G (cs T N)).all⟩
theorem asInts_map : ∀ ns : List Int, asInts (ns.map D.int) = some ns
  | [] => rfl
  | n :: ns => by
    show (asInts (ns.map D.int)).map (n :: ·) = _
    rw [asInts_map ns]
    rfl
theorem sumD_ints (ns : List Int) : sumD (.lst (ns.map D.int)) = some (.d (.int ns.sum)) := by
  show (asInts (ns.map D.int)).map _ = _
  rw [asInts_map]
  rfl
@[simp] theorem lenD_s (x : Str) : lenD (.str x) = if x.length ≤ line then some (.d (.int x.length)) else none := (rfl)
structure Itm where
  ab : Option Nat
  wo : Int
  we : Int
noncomputable def abD : Option Nat → D
  | none => .non
  | some j => .int (j : Int)
@[simp] theorem abD_n : abD none = .non := (rfl)
@[simp] theorem abD_s (j : Nat) : abD (some j) = .int (j : Int) := (rfl)
noncomputable def Itm.d (i : Itm) : D := .tup [abD i.ab, .int i.wo, .int i.we]
noncomputable def it0 : Itm := ⟨none, 0, 0⟩
noncomputable def ix (its : List Itm) (i : Nat) : Itm := its.getD i it0
structure ItsOk (its : List Itm) : Prop where
  n10 : its.length ≤ 10
  ab : ∀ i j, i < its.length → (ix its i).ab = some j → j < i
  wo : ∀ i, i < its.length → 0 ≤ (ix its i).wo ∧ (ix its i).wo ≤ 1000000000
  we : ∀ i, i < its.length → -40 ≤ (ix its i).we ∧ (ix its i).we ≤ 40
noncomputable abbrev itsD (its : List Itm) : List D := its.map Itm.d
theorem its_at (its : List Itm) (i : Nat) (h : i < its.length) : atI (itsD its) (i : Int) = some (ix its i).d := by
  refine atI_ok (by omega) ?_
  rw [Int.toNat_natCast, List.getElem?_map, List.getElem?_eq_getElem h]
  unfold ix
  rw [List.getD_eq_getElem?_getD, List.getElem?_eq_getElem h]
  rfl
noncomputable def tk (l : List Bool) (i : Nat) : Bool := l.getD i false
theorem tk_left (l m : List Bool) (i : Nat) (h : i < l.length) : tk (l ++ m) i = tk l i := by
  unfold tk
  rw [List.getD_eq_getElem?_getD, List.getElem?_append_left h, ← List.getD_eq_getElem?_getD]
theorem tk_last (l : List Bool) (b : Bool) (i : Nat) (h : i = l.length) : tk (l ++ [b]) i = b := by
  subst h
  unfold tk
  rw [List.getD_eq_getElem?_getD, List.getElem?_append_right (Nat.le_refl _), Nat.sub_self]
  rfl
/-- a decided text -/
noncomputable def sg (b : Bool) : Nat := if b then 49 else 48
noncomputable def txt (dec : List Bool) : Str := ⟨(dec.map sg).toArray⟩
theorem txt_tl (dec : List Bool) : tl (txt dec) = dec.map sg := rfl
theorem txt_len (dec : List Bool) : (txt dec).length = dec.length := by rw [tl_len, txt_tl, List.length_map]
theorem txt_at (dec : List Bool) (i : Nat) (h : i < dec.length) : atI (txt dec).cps.toList (i : Int) = some (sg (tk dec i)) := by
  refine atI_ok (by omega) ?_
  show (tl (txt dec))[(i : Int).toNat]? = _
  unfold tk
  rw [txt_tl, Int.toNat_natCast, List.getElem?_map, List.getElem?_eq_getElem h, List.getD_eq_getElem?_getD, List.getElem?_eq_getElem h]
  rfl
theorem tl_1 : tl "1" = [49] := by decide +kernel
theorem sg_1 (b : Bool) : ((⟨#[sg b]⟩ : Str) == "1") = b := by
  have : ((⟨#[sg b]⟩ : Str) == "1") = decide (tl (⟨#[sg b]⟩ : Str) = tl "1") := by
    by_cases h : (⟨#[sg b]⟩ : Str) = "1"
    · rw [h]; simp
    · have h2 : ¬ tl (⟨#[sg b]⟩ : Str) = tl "1" := fun e => h (tl_ext e)
      rw [decide_eq_false h2]
      simpa using h
  rw [this, tl_1, tl_one]
  cases b <;> rfl
/-- a sum over numbers that follow one another -/
noncomputable def sumC (f : Nat → Int) (P : Nat → Bool) : Nat → Nat → Int
  | _, 0 => 0
  | k, c + 1 => (if P k then f k else 0) + sumC f P (k + 1) c
theorem sumC_congr {f g : Nat → Int} {P Q : Nat → Bool} : ∀ (c k : Nat), (∀ j, k ≤ j → j < k + c → P j = Q j ∧ (P j = true → f j = g j)) → sumC f P k c = sumC g Q k c
  | 0, _, _ => rfl
  | c + 1, k, h => by
    have h0 := h k (Nat.le_refl _) (by omega)
    show (if P k then f k else 0) + sumC f P (k + 1) c = (if Q k then g k else 0) + sumC g Q (k + 1) c
    rw [sumC_congr c (k + 1) fun j h1 h2 => h j (by omega) (by omega), ← h0.1]
    by_cases c : P k = true
    · rw [if_pos c, if_pos c, h0.2 c]
    · rw [if_neg c, if_neg c]
section
variable (its : List Itm) (dec : List Bool) (p q : Int)
noncomputable def val (i : Nat) : Int := q * (ix its i).wo - p * (ix its i).we
/-- the top of an item, by as many turns -/
noncomputable def tpF : Nat → Nat → Int
  | 0, _ => 0
  | f + 1, i => max 0 (val its p q i + sumC (tpF f) (fun j => (ix its j).ab == some i) (i + 1) (its.length - (i + 1)))
noncomputable def top (i : Nat) : Int := tpF its p q (its.length - i) i
theorem tp_stable : ∀ (f g i : Nat), i < its.length → its.length - i ≤ f → its.length - i ≤ g → tpF its p q f i = tpF its p q g i := by
  intro f
  induction f with
  | zero => intro g i hi h1 _; omega
  | succ f ih =>
    intro g i hi h1 h2
    cases g with
    | zero => omega
    | succ g =>
      show max 0 _ = max 0 _
      congr 2
      refine sumC_congr _ _ fun j j1 j2 => ⟨rfl, fun _ => ih g j (by omega) (by omega) (by omega)⟩
theorem top_eq (i : Nat) (hi : i < its.length) : top its p q i = max 0 (val its p q i + sumC (top its p q) (fun j => (ix its j).ab == some i) (i + 1) (its.length - (i + 1))) := by
  unfold top
  obtain ⟨m, hm⟩ : ∃ m, its.length - i = m + 1 := ⟨its.length - i - 1, by omega⟩
  rw [hm]
  show max 0 _ = max 0 _
  congr 2
  refine sumC_congr _ _ fun j j1 j2 => ⟨rfl, fun _ => tp_stable its p q m _ j (by omega) (by omega) (by omega)⟩
/-- which are free -/
noncomputable def frL : Nat → List Bool
  | 0 => []
  | k + 1 => frL k ++ [if k < dec.length then false else match (ix its k).ab with
    | none => true
    | some j => if j < dec.length then tk dec j else tk (frL k) j]
noncomputable def fr (i : Nat) : Bool := tk (frL its dec its.length) i
theorem frL_len : ∀ k, (frL its dec k).length = k
  | 0 => rfl
  | k + 1 => by
    show (frL its dec k ++ [_]).length = _
    rw [List.length_append, frL_len k]
    rfl
theorem frL_get : ∀ (k m i : Nat), i < k → k ≤ m → tk (frL its dec m) i = tk (frL its dec k) i := by
  intro k m i hi hk
  induction m with
  | zero => omega
  | succ m ih =>
    by_cases e : k = m + 1
    · rw [e]
    · show tk (frL its dec m ++ [_]) i = _
      rw [tk_left _ _ _ (by rw [frL_len]; omega)]
      exact ih (by omega)
theorem fr_eq (i : Nat) (hi : i < its.length) (hab : ∀ j, (ix its i).ab = some j → j < i) : fr its dec i = if i < dec.length then false else match (ix its i).ab with
    | none => true
    | some j => if j < dec.length then tk dec j else fr its dec j := by
  have e : fr its dec i = tk (frL its dec (i + 1)) i := frL_get its dec (i + 1) its.length i (by omega) (by omega)
  rw [e]
  show tk (frL its dec i ++ [_]) i = _
  rw [tk_last _ _ _ (frL_len its dec i).symm]
  show (if i < dec.length then false else _) = _
  by_cases c : i < dec.length
  · rw [if_pos c, if_pos c]
  · rw [if_neg c, if_neg c]
    cases h : (ix its i).ab with
    | none => rfl
    | some j =>
      show (if j < dec.length then _ else _) = (if j < dec.length then _ else _)
      by_cases c2 : j < dec.length
      · rw [if_pos c2, if_pos c2]
      · rw [if_neg c2, if_neg c2]
        have hj := hab j h
        unfold fr
        rw [frL_get its dec (j + 1) its.length j (by omega) (by omega), frL_get its dec (j + 1) i j (by omega) (by omega)]
end
/-- the numbers of a leaf -/
structure Rat2 (p q : Int) : Prop where
  p0 : 0 ≤ p
  p1 : p ≤ 1000000000000
  q0 : 1 ≤ q
  q1 : q ≤ 1000000000000
theorem free_wp (n : Nat) (its : List Itm) (dec : List Bool) (hi : ItsOk its) (hd : dec.length ≤ its.length) :
    den (n + 1) "free_items" [.d (.lst (itsD its)), .d (.str (txt dec))] = .ok (.lst ((frL its dec its.length).map .bl)) [some (.d (.lst (itsD its))), some (.d (.str (txt dec)))] := by
  refine eq_of_wp ?_
  have n10 := hi.n10
  have tl' := txt_len dec
  have tl2 : dec.length ≤ 16777216 := by omega
  rw [den_free_items]
  refine run_wp rfl ?_
  unfold b_free_items
  simp -dsimp [List.replicate]
  obtain ⟨I, hI⟩ : ∃ I : List D → SS → Prop, I = fun (ds : List D) (S : SS) => ∃ (k : Nat) (s3 s4 s5 s6 : Option M), k ≤ its.length ∧ ds = (enumD (itsD its)).drop k ∧ S = [some (.d (.lst (itsD its))), some (.d (.str (txt dec))), some (.lst ((frL its dec k).map .bl)), s3, s4, s5, s6] := ⟨_, rfl⟩
  have el : (enumD (itsD its)).length = its.length := by unfold enumD; rw [List.length_mapIdx, List.length_map]
  have eg : ∀ k, k < its.length → (enumD (itsD its)).drop k = .tup [.int (k : Int), (ix its k).d] :: (enumD (itsD its)).drop (k + 1) := by
    intro k hk
    rw [List.drop_eq_getElem_cons (by rw [el]; exact hk)]
    congr 1
    have : (enumD (itsD its))[k]? = some (.tup [.int (k : Int), (ix its k).d]) := by
      unfold enumD
      rw [List.getElem?_mapIdx, List.getElem?_map, List.getElem?_eq_getElem hk]
      unfold ix
      rw [List.getD_eq_getElem?_getD, List.getElem?_eq_getElem hk]
      rfl
    rw [List.getElem?_eq_getElem (by rw [el]; exact hk)] at this
    exact Option.some.inj this
  refine wp_forL I ?_ ?_ _ _ (by rw [hI]; exact ⟨0, _, _, _, _, Nat.zero_le _, rfl, rfl⟩)
  · intro S hS
    rw [hI] at hS
    obtain ⟨k, s3, s4, s5, s6, hk, hds, rfl⟩ := hS
    have : k = its.length := by
      have := congrArg List.length hds
      rw [List.length_drop, el] at this
      simp at this
      omega
    subst this
    simp -dsimp
  · intro d ds S hS
    rw [hI] at hS
    obtain ⟨k, s3, s4, s5, s6, hk, hds, rfl⟩ := hS
    have hk : k < its.length := by
      have := congrArg List.length hds
      rw [List.length_drop, el] at this
      simp at this
      omega
    rw [eg k hk] at hds
    injection hds with e1 e2
    subst e1
    refine ⟨[some (.d (.lst (itsD its))), some (.d (.str (txt dec))), some (.lst ((frL its dec k).map .bl)), some (.d (.int (k : Int))), some (.d (abD (ix its k).ab)), some (.d (.int (ix its k).wo)), some (.d (.int (ix its k).we))], rfl, ?_⟩
    have fin : ∀ b : Bool, b = (if k < dec.length then false else match (ix its k).ab with
        | none => true
        | some j => if j < dec.length then tk dec j else tk (frL its dec k) j) → I ds [some (.d (.lst (itsD its))), some (.d (.str (txt dec))), some (.lst ((frL its dec k).map .bl ++ [.bl b])), some (.d (.int (k : Int))), some (.d (abD (ix its k).ab)), some (.d (.int (ix its k).wo)), some (.d (.int (ix its k).we))] := by
      intro b hb
      rw [hI]
      refine ⟨k + 1, some (.d (.int (k : Int))), some (.d (abD (ix its k).ab)), some (.d (.int (ix its k).wo)), some (.d (.int (ix its k).we)), by omega, e2, ?_⟩
      have : (frL its dec (k + 1)).map D.bl = (frL its dec k).map .bl ++ [.bl b] := by
        rw [hb]
        show (frL its dec k ++ [_]).map D.bl = _
        rw [List.map_append]
        rfl
      rw [this]
    have fl := frL_len its dec k
    by_cases c : k < dec.length
    · simp -dsimp [tl2, tl', show (k : Int) < (dec.length : Int) by omega, fl, show k < 16777216 by omega, c]
      exact fin _ (by rw [if_pos c])
    · cases ha : (ix its k).ab with
      | none =>
        rw [ha] at fin
        simp -dsimp [tl2, tl', show ¬ (k : Int) < (dec.length : Int) by omega, fl, show k < 16777216 by omega, c]
        exact fin _ (by rw [if_neg c])
      | some j =>
        have hj := hi.ab k j hk ha
        rw [ha] at fin
        by_cases c2 : j < dec.length
        · simp -dsimp [tl2, tl', show ¬ (k : Int) < (dec.length : Int) by omega, fl, show k < 16777216 by omega, c, show (j : Int) < (dec.length : Int) by omega, c2, txt_at dec j c2, sg_1]
          exact fin _ (by rw [if_neg c]; exact (if_pos c2).symm)
        · have e3 : atI ((frL its dec k).map D.bl) (j : Int) = some (.bl (tk (frL its dec k) j)) := by
            refine atI_ok (by omega) ?_
            unfold tk
            rw [Int.toNat_natCast, List.getElem?_map, List.getD_eq_getElem?_getD, List.getElem?_eq_getElem (by omega)]
            rfl
          simp -dsimp [tl2, tl', show ¬ (k : Int) < (dec.length : Int) by omega, fl, show k < 16777216 by omega, c, show ¬ (j : Int) < (dec.length : Int) by omega, c2, e3]
          exact fin _ (by rw [if_neg c]; exact (if_neg c2).symm)
noncomputable def fD (n : Nat) (F : Nat → Int) : List D := (List.range n).map fun i => .int (F i)
noncomputable def upF (F : Nat → Int) (k : Nat) (x : Int) (i : Nat) : Int := if i = k then x else F i
theorem fD_len (n : Nat) (F : Nat → Int) : (fD n F).length = n := by unfold fD; rw [List.length_map, List.length_range]
theorem fD_at (n : Nat) (F : Nat → Int) (k : Nat) (h : k < n) : atI (fD n F) (k : Int) = some (.int (F k)) := by
  refine atI_ok (by omega) ?_
  unfold fD
  rw [Int.toNat_natCast, List.getElem?_map, List.getElem?_range h]
  rfl
theorem fD_set (n : Nat) (F : Nat → Int) (k : Nat) (x : Int) : (fD n F).set k (.int x) = fD n (upF F k x) := by
  apply List.ext_getElem?
  intro i
  unfold fD
  by_cases hi : i < n
  · by_cases e : k = i
    · subst e
      rw [List.getElem?_set_self (by rw [List.length_map, List.length_range]; exact hi), List.getElem?_map, List.getElem?_range hi]
      show _ = some (D.int (upF F k x k))
      unfold upF
      rw [if_pos rfl]
    · rw [List.getElem?_set_ne e, List.getElem?_map, List.getElem?_map, List.getElem?_range hi]
      show some (D.int (F i)) = some (D.int (upF F k x i))
      unfold upF
      rw [if_neg (fun z => e z.symm)]
  · rw [List.getElem?_eq_none (by rw [List.length_set, List.length_map, List.length_range]; omega), List.getElem?_eq_none (by rw [List.length_map, List.length_range]; omega)]
theorem fD_congr (n : Nat) (F G : Nat → Int) (h : ∀ i, i < n → F i = G i) : fD n F = fD n G := by
  unfold fD
  apply List.map_congr_left
  intro i hi
  rw [h i (List.mem_range.mp hi)]
theorem downD_succ (k : Nat) : downD ((k : Int)) (k + 1) = .int (k : Int) :: downD ((k : Int) - 1) k := by
  unfold downD
  rw [List.range_succ_eq_map, List.map_cons, List.map_map]
  have e1 : D.int ((k : Int) - ((0 : Nat) : Int)) = D.int (k : Int) := by rw [show (k : Int) - ((0 : Nat) : Int) = (k : Int) by omega]
  rw [e1]
  refine congrArg _ (List.map_congr_left ?_)
  intro j _
  show D.int ((k : Int) - ((j + 1 : Nat) : Int)) = D.int ((k : Int) - 1 - (j : Int))
  rw [show (k : Int) - ((j + 1 : Nat) : Int) = (k : Int) - 1 - (j : Int) by omega]
/-- what children above k have put by -/
noncomputable def chd (its : List Itm) (dec : List Bool) (p q : Int) (k i : Nat) : Int := sumC (top its p q) (fun j => (ix its j).ab == some i && fr its dec j) k (its.length - k)
theorem chd_step (its : List Itm) (dec : List Bool) (p q : Int) (k i : Nat) (hk : k < its.length) : chd its dec p q k i = (if ((ix its k).ab == some i && fr its dec k) = true then top its p q k else 0) + chd its dec p q (k + 1) i := by
  unfold chd
  obtain ⟨c, hc⟩ : ∃ c, its.length - k = c + 1 := ⟨its.length - k - 1, by omega⟩
  rw [hc, show its.length - (k + 1) = c by omega]
  rfl
theorem bl_at (its : List Itm) (dec : List Bool) (k : Nat) (h : k < its.length) : atI ((frL its dec its.length).map D.bl) (k : Int) = some (.bl (fr its dec k)) := by
  refine atI_ok (by omega) ?_
  unfold fr tk
  rw [Int.toNat_natCast, List.getElem?_map, List.getD_eq_getElem?_getD, List.getElem?_eq_getElem (by rw [frL_len]; exact h)]
  rfl
theorem tops_eq (n : Nat) (its : List Itm) (dec : List Bool) (p q : Int) (hi : ItsOk its) (hd : dec.length ≤ its.length) (hr : Rat2 p q) :
    den (n + 2) "tops" [.d (.lst (itsD its)), .d (.str (txt dec)), .d (.int p), .d (.int q)] =
      .ok (.lst (fD its.length fun i => if fr its dec i then top its p q i else 0)) [some (.d (.lst (itsD its))), some (.d (.str (txt dec))), some (.d (.int p)), some (.d (.int q))] := by
  refine eq_of_wp ?_
  have n10 := hi.n10
  have tl' := txt_len dec
  have tl2 : dec.length ≤ 16777216 := by omega
  rw [den_tops]
  refine run_wp rfl ?_
  unfold b_tops
  have lc : mLc [7] (iSeq (eN 0)) (gN 7) tTrue (eC (.int 0)) [some (.d (.lst (itsD its))), some (.d (.str (txt dec))), some (.d (.int p)), some (.d (.int q)), some (.lst ((frL its dec its.length).map .bl)), none, none, none, none, none, none] =
      .ok (.lst (fD its.length fun _ => 0)) [some (.d (.lst (itsD its))), some (.d (.str (txt dec))), some (.d (.int p)), some (.d (.int q)), some (.lst ((frL its dec its.length).map .bl)), none, none, none, none, none, none] := by
    have e2 := mLc_mapP (own := [7]) (fi := iSeq (eN 0)) (g := gN 7) (fe := eC (.int 0))
      (S := [some (.d (.lst (itsD its))), some (.d (.str (txt dec))), some (.d (.int p)), some (.d (.int q)), some (.lst ((frL its dec its.length).map .bl)), none, none, none, none, none, none])
      (S1 := [some (.d (.lst (itsD its))), some (.d (.str (txt dec))), some (.d (.int p)), some (.d (.int q)), some (.lst ((frL its dec its.length).map .bl)), none, none, none, none, none, none]) (ds := itsD its) (fun _ => .int 0) (by simp -dsimp) (by
        intro d hd
        refine ⟨_, rfl, ?_⟩
        simp -dsimp [wipeS]) (by rw [List.length_map]; simp; omega)
    rw [e2]
    have : (itsD its).map (fun _ => D.int 0) = fD its.length fun _ => 0 := by
      unfold fD
      apply List.ext_getElem?
      intro i
      rw [List.getElem?_map, List.getElem?_map, List.getElem?_map]
      by_cases h : i < its.length
      · rw [List.getElem?_eq_getElem h, List.getElem?_range h]; rfl
      · rw [List.getElem?_eq_none (by omega), List.getElem?_eq_none (by rw [List.length_range]; omega)]; rfl
    rw [this]
    rfl
  obtain ⟨m, hm⟩ : ∃ m : Nat, m = its.length := ⟨_, rfl⟩
  have dn : (((its.length : Int) - 1) - (-1)).toNat = its.length := by omega
  simp -dsimp [List.replicate, free_wp n its dec hi hd, lc, show -4611686018427387904 ≤ (its.length : Int) - 1 ∧ (its.length : Int) - 1 < 4611686018427387904 by omega]
  have kids : ∀ k, k < its.length → dec.length ≤ k → fr its dec k = true → chd its dec p q (k + 1) k = sumC (top its p q) (fun j => (ix its j).ab == some k) (k + 1) (its.length - (k + 1)) := by
    intro k hk hL hf
    unfold chd
    refine sumC_congr _ _ fun j j1 j2 => ⟨?_, fun _ => rfl⟩
    by_cases e : (ix its j).ab = some k
    · have : fr its dec j = true := by
        rw [fr_eq its dec j (by omega) (fun a ha => hi.ab j a (by omega) ha), if_neg (by omega), e]
        show (if k < dec.length then _ else _) = true
        rw [if_neg (by omega)]
        exact hf
      rw [this, Bool.and_true]
    · have : ((ix its j).ab == some k) = false := by simpa using e
      rw [this]
      rfl
  obtain ⟨I, hI⟩ : ∃ I : List D → SS → Prop, I = fun (ds : List D) (S : SS) => ∃ (k : Nat) (F : Nat → Int) (s6 s8 s9 s10 : Option M), k ≤ its.length ∧ ds = downD ((k : Int) - 1) k ∧ (∀ i, k ≤ i → i < its.length → F i = if fr its dec i then top its p q i else 0) ∧
    (∀ i, i < k → F i = if dec.length ≤ i then chd its dec p q k i else 0) ∧ S = [some (.d (.lst (itsD its))), some (.d (.str (txt dec))), some (.d (.int p)), some (.d (.int q)), some (.lst ((frL its dec its.length).map .bl)), some (.lst (fD its.length F)), s6, none, s8, s9, s10] := ⟨_, rfl⟩
  refine wp_forL I ?_ ?_ _ _ (by
    rw [hI]
    refine ⟨its.length, fun _ => 0, _, _, _, _, Nat.le_refl _, rfl, fun i h1 h2 => by omega, fun i h1 => ?_, rfl⟩
    have : chd its dec p q its.length i = 0 := by unfold chd; rw [Nat.sub_self]; rfl
    rw [this]
    simp)
  · intro S hS
    rw [hI] at hS
    obtain ⟨k, F, s6, s8, s9, s10, hk, hds, h1, h2, rfl⟩ := hS
    have : k = 0 := by
      have := congrArg List.length hds
      unfold downD at this
      simp at this
      omega
    subst this
    have := fD_congr its.length F _ (fun i hi => h1 i (Nat.zero_le _) hi)
    simp -dsimp [this]
  · intro d ds S hS
    rw [hI] at hS
    obtain ⟨k, F, s6, s8, s9, s10, hk, hds, h1, h2, rfl⟩ := hS
    obtain ⟨k, rfl⟩ : ∃ j, k = j + 1 := ⟨k - 1, by
      have := congrArg List.length hds
      unfold downD at this
      simp at this
      omega⟩
    rw [show (((k + 1 : Nat) : Int) - 1) = (k : Int) by omega, downD_succ] at hds
    injection hds with e1 e2
    subst e1
    have hk : k < its.length := by omega
    have ed : (ix its k).d = .tup [abD (ix its k).ab, .int (ix its k).wo, .int (ix its k).we] := rfl
    have wi := hi.wo k hk
    have m1 : mulOk q (ix its k).wo = true := mulOk_l (by have := hr.q0; have := hr.q1; omega)
    have m2 : mulOk p (ix its k).we = true := mulOk_l (by have := hr.p0; have := hr.p1; omega)
    have m3 : ∀ i, mulOk i 1 = true := fun i => mulOk_r (by decide)
    have m4 : ∀ i, mulOk i 0 = true := fun i => mulOk_r (by decide)
    obtain ⟨w, hw⟩ : ∃ w : Int, F k + q * (ix its k).wo - p * (ix its k).we = w := ⟨_, rfl⟩
    obtain ⟨y, hy⟩ : ∃ y : Int, (if 0 < w then w else 0) = y := ⟨_, rfl⟩
    have fk := h2 k (Nat.lt_succ_self _)
    have base : [some (M.d (.lst (itsD its))), some (.d (.str (txt dec))), some (.d (.int p)), some (.d (.int q)), some (.lst ((frL its dec its.length).map .bl)), some (.lst (fD its.length F)), s6, none, s8, s9, s10] = [some (.d (.lst (itsD its))), some (.d (.str (txt dec))), some (.d (.int p)), some (.d (.int q)), some (.lst ((frL its dec its.length).map .bl)), some (.lst (fD its.length F)), s6, none, s8, s9, s10] := rfl
    have fin : ∀ G : Nat → Int, (∀ i, k ≤ i → i < its.length → G i = if fr its dec i then top its p q i else 0) → (∀ i, i < k → G i = if dec.length ≤ i then chd its dec p q k i else 0) → I ds [some (.d (.lst (itsD its))), some (.d (.str (txt dec))), some (.d (.int p)), some (.d (.int q)), some (.lst ((frL its dec its.length).map .bl)), some (.lst (fD its.length G)), some (.d (.int (k : Int))), none, some (.d (abD (ix its k).ab)), some (.d (.int (ix its k).wo)), some (.d (.int (ix its k).we))] := by
      intro G g1 g2
      rw [hI]
      exact ⟨k, G, some (.d (.int (k : Int))), some (.d (abD (ix its k).ab)), some (.d (.int (ix its k).wo)), some (.d (.int (ix its k).we)), by omega, e2, g1, g2, rfl⟩
    have step : ∀ i, chd its dec p q k i = (if ((ix its k).ab == some i && fr its dec k) = true then top its p q k else 0) + chd its dec p q (k + 1) i := fun i => chd_step its dec p q k i hk
    refine ⟨[some (.d (.lst (itsD its))), some (.d (.str (txt dec))), some (.d (.int p)), some (.d (.int q)), some (.lst ((frL its dec its.length).map .bl)), some (.lst (fD its.length F)), some (.d (.int (k : Int))), none, s8, s9, s10], rfl, ?_⟩
    cases hf : fr its dec k with
    | false =>
      simp -dsimp [its_at its k hk, ed, m1, m2, m4, fD_at _ _ k hk, fD_len, fD_set, ixN_nn, hk, hw, hy, bl_at its dec k hk, hf]
      refine fin _ (fun i i1 i2 => ?_) (fun i i1 => ?_)
      · unfold upF
        by_cases e : i = k
        · subst e; rw [if_pos rfl, hf]; rfl
        · rw [if_neg e]; exact h1 i (by omega) i2
      · unfold upF
        rw [if_neg (by omega), h2 i (by omega), step i, hf, Bool.and_false]
        simp
    | true =>
      have hL : dec.length ≤ k := by
        by_cases c : k < dec.length
        · rw [fr_eq its dec k hk (fun a ha => hi.ab k a hk ha), if_pos c] at hf
          cases hf
        · omega
      have yt : y = top its p q k := by
        rw [top_eq its p q k hk, ← kids k hk hL hf]
        rw [if_pos hL] at fk
        have : val its p q k + chd its dec p q (k + 1) k = w := by rw [← hw, fk]; unfold val; omega
        rw [this, ← hy]
        split <;> omega
      have g1 : ∀ i, k ≤ i → i < its.length → upF F k y i = if fr its dec i then top its p q i else 0 := fun i i1 i2 => by
        unfold upF
        by_cases e : i = k
        · subst e; rw [if_pos rfl, hf, yt]; rfl
        · rw [if_neg e]; exact h1 i (by omega) i2
      have nope : (∀ i, i < k → dec.length ≤ i → (ix its k).ab ≠ some i) → ∀ i, i < k → upF F k y i = if dec.length ≤ i then chd its dec p q k i else 0 := fun hn i i1 => by
        unfold upF
        rw [if_neg (by omega), h2 i (by omega), step i]
        by_cases c : dec.length ≤ i
        · have : ((ix its k).ab == some i) = false := by simpa using hn i i1 c
          rw [this]; simp
        · rw [if_neg c, if_neg c]
      cases ha : (ix its k).ab with
      | none =>
        rw [ha] at ed fin nope
        simp -dsimp [its_at its k hk, ed, m1, m2, m3, fD_at _ _ k hk, fD_len, fD_set, ixN_nn, hk, hw, hy, bl_at its dec k hk, hf]
        exact fin _ g1 (nope fun i _ _ e => by cases e)
      | some a =>
        have ak := hi.ab k a hk ha
        rw [ha] at ed fin
        by_cases c : dec.length ≤ a
        · simp -dsimp [its_at its k hk, ed, m1, m2, m3, fD_at _ _ k hk, fD_at _ _ a (by omega : a < its.length), fD_len, fD_set, ixN_nn, hk, hw, hy, bl_at its dec k hk, hf, tl', tl2, show (dec.length : Int) ≤ (a : Int) by omega, c, show a < its.length by omega]
          have uk : upF F k y k = y := by unfold upF; rw [if_pos rfl]
          have ua : upF F k y a = F a := by unfold upF; rw [if_neg (by omega)]
          refine fin _ (fun i i1 i2 => ?_) (fun i i1 => ?_)
          · show (if i = a then _ else _) = _
            rw [if_neg (by omega)]
            exact g1 i i1 i2
          · show (if i = a then _ else _) = _
            by_cases e : i = a
            · subst e
              rw [if_pos rfl, uk, ua, h2 i (by omega), if_pos c, if_pos c, step i, ha, hf]
              simp
              rw [yt]
              omega
            · rw [if_neg e]
              unfold upF
              rw [if_neg (by omega), h2 i (by omega), step i]
              have : ((ix its k).ab == some i) = false := by rw [ha]; simp; omega
              rw [this]
              by_cases c3 : dec.length ≤ i
              · rw [if_pos c3, if_pos c3]; simp
              · rw [if_neg c3, if_neg c3]
        · simp -dsimp [its_at its k hk, ed, m1, m2, m3, fD_at _ _ k hk, fD_len, fD_set, ixN_nn, hk, hw, hy, bl_at its dec k hk, hf, tl', tl2, show ¬ (dec.length : Int) ≤ (a : Int) by omega, c]
          exact fin _ g1 (nope fun i _ i2 e => by rw [ha] at e; cases e; exact c i2)
theorem sumC_split (f : Nat → Int) (P : Nat → Bool) : ∀ (c d k : Nat), sumC f P k (c + d) = sumC f P k c + sumC f P (k + c) d
  | 0, d, k => by
    rw [Nat.zero_add, Nat.add_zero]
    show _ = 0 + _
    omega
  | c + 1, d, k => by
    rw [show c + 1 + d = (c + d) + 1 by omega]
    show (if P k then f k else 0) + sumC f P (k + 1) (c + d) = (if P k then f k else 0) + sumC f P (k + 1) c + _
    rw [sumC_split f P c d (k + 1), show k + (c + 1) = k + 1 + c by omega]
    omega
theorem sumC_none (f : Nat → Int) (P : Nat → Bool) : ∀ (c k : Nat), (∀ j, k ≤ j → j < k + c → P j = false) → sumC f P k c = 0
  | 0, _, _ => rfl
  | c + 1, k, h => by
    show (if P k then f k else 0) + sumC f P (k + 1) c = 0
    rw [h k (Nat.le_refl _) (by omega), sumC_none f P c (k + 1) fun j h1 h2 => h j (by omega) (by omega)]
    rfl
theorem sumC_val (its : List Itm) (p q : Int) (P : Nat → Bool) : ∀ (c k : Nat), q * sumC (fun i => (ix its i).wo) P k c - p * sumC (fun i => (ix its i).we) P k c = sumC (val its p q) P k c
  | 0, _ => by show q * 0 - p * 0 = 0; rw [Int.mul_zero, Int.mul_zero]; rfl
  | c + 1, k => by
    show q * ((if P k then (ix its k).wo else 0) + sumC (fun i => (ix its i).wo) P (k + 1) c) - p * ((if P k then (ix its k).we else 0) + sumC (fun i => (ix its i).we) P (k + 1) c) = (if P k then val its p q k else 0) + sumC (val its p q) P (k + 1) c
    rw [← sumC_val its p q P c (k + 1), Int.mul_add, Int.mul_add]
    by_cases h : P k = true
    · rw [if_pos h, if_pos h, if_pos h]; unfold val; omega
    · rw [if_neg h, if_neg h, if_neg h, Int.mul_zero, Int.mul_zero]; omega
theorem sumC_list (f : Nat → Int) (P : Nat → Bool) : ∀ (c k : Nat), (((List.range' k c).filter P).map f).sum = sumC f P k c
  | 0, _ => rfl
  | c + 1, k => by
    rw [List.range'_succ]
    show _ = (if P k then f k else 0) + sumC f P (k + 1) c
    rw [← sumC_list f P c (k + 1)]
    by_cases h : P k = true
    · rw [List.filter_cons_of_pos h, List.map_cons, List.sum_cons, if_pos h]
    · rw [List.filter_cons_of_neg h, if_neg h]; omega
/-- those told to be taken -/
noncomputable def tdL (dec : List Bool) : List Nat := (List.range' 0 dec.length).filter (tk dec)
noncomputable def root (its : List Itm) (dec : List Bool) (i : Nat) : Bool := match (ix its i).ab with
  | none => true
  | some j => decide (j < dec.length)
noncomputable def bnd0 (its : List Itm) (dec : List Bool) (room p q : Int) : Int := p * room + (sumC (val its p q) (tk dec) 0 dec.length + sumC (fun i => if fr its dec i then top its p q i else 0) (root its dec) 0 its.length)
theorem tdL_len (dec : List Bool) : (tdL dec).length ≤ dec.length := by
  unfold tdL
  have := List.length_filter_le (tk dec) (List.range' 0 dec.length)
  rw [List.length_range'] at this
  exact this
theorem enum_txt (dec : List Bool) : enumD (strSeq (txt dec)) = (List.range' 0 dec.length).map fun i => .tup [.int (i : Int), .str ⟨#[sg (tk dec i)]⟩] := by
  apply List.ext_getElem?
  intro i
  unfold enumD strSeq
  rw [List.getElem?_mapIdx, List.getElem?_map, List.getElem?_map]
  show Option.map _ (Option.map _ (tl (txt dec))[i]?) = _
  rw [txt_tl, List.getElem?_map]
  by_cases h : i < dec.length
  · rw [List.getElem?_eq_getElem h, List.getElem?_range' h]
    unfold tk
    simp [List.getD_eq_getElem?_getD, h]
  · rw [List.getElem?_eq_none (by omega), List.getElem?_eq_none (by rw [List.length_range']; omega)]
    rfl
theorem sumC_zero (f : Nat → Int) (P : Nat → Bool) : ∀ (c k : Nat), (∀ j, k ≤ j → j < k + c → f j = 0) → sumC f P k c = 0
  | 0, _, _ => rfl
  | c + 1, k, h => by
    show (if P k then f k else 0) + sumC f P (k + 1) c = 0
    rw [h k (Nat.le_refl _) (by omega), sumC_zero f P c (k + 1) fun j h1 h2 => h j (by omega) (by omega)]
    simp
theorem bound_eq (n : Nat) (its : List Itm) (dec : List Bool) (room p q : Int) (hi : ItsOk its) (hd : dec.length ≤ its.length) (hr : Rat2 p q) (h0 : 0 ≤ room ∧ room ≤ 1000) :
    den (n + 3) "bound_of" [.d (.lst (itsD its)), .d (.int room), .d (.tup [.str (txt dec), .int p, .int q])] =
      .ok (.d (.int (bnd0 its dec room p q))) [some (.d (.lst (itsD its))), some (.d (.int room)), some (.d (.tup [.str (txt dec), .int p, .int q]))] := by
  refine eq_of_wp ?_
  have n10 := hi.n10
  have tl' := txt_len dec
  have tl2 : dec.length ≤ 16777216 := by omega
  have tdl := tdL_len dec
  have hq := hr.q0
  have hq1 := hr.q1
  have hp := hr.p0
  have hp1 := hr.p1
  rw [den_bound_of]
  refine run_wp rfl ?_
  unfold b_bound_of
  have lc : mLc [8, 11] (iEnA (aCons (eN 5) aNil)) (gT 2 (gsCons (gN 8) (gsCons (gN 11) gsNil))) (tM (mBin eqD (eN 11) (eC (.str "1")))) (eM (mBin ixD (eN 0) (eN 8)))
      [some (.d (.lst (itsD its))), some (.d (.int room)), some (.d (.tup [.str (txt dec), .int p, .int q])), none, none, some (.d (.str (txt dec))), some (.d (.int p)), some (.d (.int q)), none, none, none, none, none, none] =
      .ok (.lst ((tdL dec).map fun i => (ix its i).d)) [some (.d (.lst (itsD its))), some (.d (.int room)), some (.d (.tup [.str (txt dec), .int p, .int q])), none, none, some (.d (.str (txt dec))), some (.d (.int p)), some (.d (.int q)), none, none, none, none, none, none] := by
    have e2 := mLc_map (own := [8, 11]) (fi := iEnA (aCons (eN 5) aNil)) (g := gT 2 (gsCons (gN 8) (gsCons (gN 11) gsNil))) (t := tM (mBin eqD (eN 11) (eC (.str "1")))) (fe := eM (mBin ixD (eN 0) (eN 8)))
      (S := [some (.d (.lst (itsD its))), some (.d (.int room)), some (.d (.tup [.str (txt dec), .int p, .int q])), none, none, some (.d (.str (txt dec))), some (.d (.int p)), some (.d (.int q)), none, none, none, none, none, none])
      (S1 := [some (.d (.lst (itsD its))), some (.d (.int room)), some (.d (.tup [.str (txt dec), .int p, .int q])), none, none, some (.d (.str (txt dec))), some (.d (.int p)), some (.d (.int q)), none, none, none, none, none, none])
      (ds := enumD (strSeq (txt dec))) (fun d => match d with | .tup [_, .str c] => c == "1" | _ => false) (fun d => match d with | .tup [.int i, _] => (ix its i.toNat).d | d => d) (by simp -dsimp) (by
        intro d hd'
        rw [enum_txt] at hd'
        obtain ⟨i, hi', rfl⟩ := List.mem_map.mp hd'
        rw [List.mem_range'] at hi'
        obtain ⟨j, hj, e⟩ := hi'
        have il : i < its.length := by omega
        refine ⟨[some (.d (.lst (itsD its))), some (.d (.int room)), some (.d (.tup [.str (txt dec), .int p, .int q])), none, none, some (.d (.str (txt dec))), some (.d (.int p)), some (.d (.int q)), some (.d (.int (i : Int))), none, none, some (.d (.str ⟨#[sg (tk dec i)]⟩)), none, none],
          [some (.d (.lst (itsD its))), some (.d (.int room)), some (.d (.tup [.str (txt dec), .int p, .int q])), none, none, some (.d (.str (txt dec))), some (.d (.int p)), some (.d (.int q)), some (.d (.int (i : Int))), none, none, some (.d (.str ⟨#[sg (tk dec i)]⟩)), none, none], rfl, ?_, fun _ => rfl, fun _ => ⟨.d (ix its i).d, [some (.d (.lst (itsD its))), some (.d (.int room)), some (.d (.tup [.str (txt dec), .int p, .int q])), none, none, some (.d (.str (txt dec))), some (.d (.int p)), some (.d (.int q)), some (.d (.int (i : Int))), none, none, some (.d (.str ⟨#[sg (tk dec i)]⟩)), none, none], _, ?_, rfl, rfl⟩⟩
        · simp -dsimp
        · simp -dsimp [its_at its i il]) (by rw [enum_txt, List.length_map, List.length_range']; simp; omega)
    rw [e2, enum_txt, List.filter_map, List.map_map]
    have f1 : ((fun d => match d with | D.tup [_, .str c] => c == "1" | _ => false) ∘ fun i : Nat => D.tup [.int (i : Int), .str ⟨#[sg (tk dec i)]⟩]) = tk dec := by
      funext i
      exact sg_1 _
    rw [f1]
    rfl
  have lw : mLc [10, 12, 13] (iSeq (eN 3)) (gT 3 (gsCons (gN 10) (gsCons (gN 12) (gsCons (gN 13) gsNil)))) tTrue (eN 12) [some (.d (.lst (itsD its))), some (.d (.int room)), some (.d (.tup [.str (txt dec), .int p, .int q])), some (.lst ((tdL dec).map fun i => (ix its i).d)), none, some (.d (.str (txt dec))), some (.d (.int p)), some (.d (.int q)), none, none, none, none, none, none] =
      .ok (.lst (((tdL dec).map fun i => (ix its i).wo).map D.int)) [some (.d (.lst (itsD its))), some (.d (.int room)), some (.d (.tup [.str (txt dec), .int p, .int q])), some (.d (.lst ((tdL dec).map fun i => (ix its i).d))), none, some (.d (.str (txt dec))), some (.d (.int p)), some (.d (.int q)), none, none, none, none, none, none] := by
    skip
    have e2 := mLc_mapP (own := [10, 12, 13]) (fi := iSeq (eN 3)) (g := gT 3 (gsCons (gN 10) (gsCons (gN 12) (gsCons (gN 13) gsNil)))) (fe := eN 12) (S := [some (.d (.lst (itsD its))), some (.d (.int room)), some (.d (.tup [.str (txt dec), .int p, .int q])), some (.lst ((tdL dec).map fun i => (ix its i).d)), none, some (.d (.str (txt dec))), some (.d (.int p)), some (.d (.int q)), none, none, none, none, none, none]) (S1 := [some (.d (.lst (itsD its))), some (.d (.int room)), some (.d (.tup [.str (txt dec), .int p, .int q])), some (.d (.lst ((tdL dec).map fun i => (ix its i).d))), none, some (.d (.str (txt dec))), some (.d (.int p)), some (.d (.int q)), none, none, none, none, none, none]) (ds := (tdL dec).map fun i => (ix its i).d) (fun d => match d with | .tup [_, x, _] => x | d => d) (by simp -dsimp) (by
      intro d hd'
      obtain ⟨i, hi', rfl⟩ := List.mem_map.mp hd'
      have ed : (ix its i).d = .tup [abD (ix its i).ab, .int (ix its i).wo, .int (ix its i).we] := rfl
      refine ⟨[some (.d (.lst (itsD its))), some (.d (.int room)), some (.d (.tup [.str (txt dec), .int p, .int q])), some (.d (.lst ((tdL dec).map fun i => (ix its i).d))), none, some (.d (.str (txt dec))), some (.d (.int p)), some (.d (.int q)), none, none, some (.d (abD (ix its i).ab)), none, some (.d (.int (ix its i).wo)), some (.d (.int (ix its i).we))], rfl, ?_⟩
      rw [ed]
      simp -dsimp [wipeS]) (by rw [List.length_map]; simp; omega)
    rw [e2, List.map_map, List.map_map]
    rfl
  have le : ∀ t : Int, mLc [10, 12, 13] (iSeq (eN 3)) (gT 3 (gsCons (gN 10) (gsCons (gN 12) (gsCons (gN 13) gsNil)))) tTrue (eN 13) [some (.d (.lst (itsD its))), some (.d (.int room)), some (.d (.tup [.str (txt dec), .int p, .int q])), some (.d (.lst ((tdL dec).map fun i => (ix its i).d))), some (.d (.int t)), some (.d (.str (txt dec))), some (.d (.int p)), some (.d (.int q)), none, none, none, none, none, none] =
      .ok (.lst (((tdL dec).map fun i => (ix its i).we).map D.int)) [some (.d (.lst (itsD its))), some (.d (.int room)), some (.d (.tup [.str (txt dec), .int p, .int q])), some (.d (.lst ((tdL dec).map fun i => (ix its i).d))), some (.d (.int t)), some (.d (.str (txt dec))), some (.d (.int p)), some (.d (.int q)), none, none, none, none, none, none] := by
    intro t
    have e2 := mLc_mapP (own := [10, 12, 13]) (fi := iSeq (eN 3)) (g := gT 3 (gsCons (gN 10) (gsCons (gN 12) (gsCons (gN 13) gsNil)))) (fe := eN 13) (S := [some (.d (.lst (itsD its))), some (.d (.int room)), some (.d (.tup [.str (txt dec), .int p, .int q])), some (.d (.lst ((tdL dec).map fun i => (ix its i).d))), some (.d (.int t)), some (.d (.str (txt dec))), some (.d (.int p)), some (.d (.int q)), none, none, none, none, none, none]) (S1 := [some (.d (.lst (itsD its))), some (.d (.int room)), some (.d (.tup [.str (txt dec), .int p, .int q])), some (.d (.lst ((tdL dec).map fun i => (ix its i).d))), some (.d (.int t)), some (.d (.str (txt dec))), some (.d (.int p)), some (.d (.int q)), none, none, none, none, none, none]) (ds := (tdL dec).map fun i => (ix its i).d) (fun d => match d with | .tup [_, _, x] => x | d => d) (by simp -dsimp) (by
      intro d hd'
      obtain ⟨i, hi', rfl⟩ := List.mem_map.mp hd'
      have ed : (ix its i).d = .tup [abD (ix its i).ab, .int (ix its i).wo, .int (ix its i).we] := rfl
      refine ⟨[some (.d (.lst (itsD its))), some (.d (.int room)), some (.d (.tup [.str (txt dec), .int p, .int q])), some (.d (.lst ((tdL dec).map fun i => (ix its i).d))), some (.d (.int t)), some (.d (.str (txt dec))), some (.d (.int p)), some (.d (.int q)), none, none, some (.d (abD (ix its i).ab)), none, some (.d (.int (ix its i).wo)), some (.d (.int (ix its i).we))], rfl, ?_⟩
      rw [ed]
      simp -dsimp [wipeS]) (by rw [List.length_map]; simp; omega)
    rw [e2, List.map_map, List.map_map]
    rfl
  obtain ⟨W, hW⟩ : ∃ W : List Int, W = (tdL dec).map fun i => (ix its i).wo := ⟨_, rfl⟩
  obtain ⟨E, hE⟩ : ∃ W : List Int, W = (tdL dec).map fun i => (ix its i).we := ⟨_, rfl⟩
  rw [← hW] at lw
  rw [← hE] at le
  obtain ⟨a, ha⟩ : ∃ a : Int, W.sum = a := ⟨_, rfl⟩
  obtain ⟨e, he⟩ : ∃ a : Int, E.sum = a := ⟨_, rfl⟩
  have sW := sumD_ints W
  have sE := sumD_ints E
  rw [ha] at sW
  rw [he] at sE
  have m1 : mulOk q a = true := mulOk_l (by omega)
  have m2 : ∀ x, mulOk p x = true := fun x => mulOk_l (by omega)
  obtain ⟨F, hF⟩ : ∃ F : Nat → Int, F = fun i => if fr its dec i then top its p q i else 0 := ⟨_, rfl⟩
  have te := tops_eq n its dec p q hi hd hr
  rw [← hF] at te
  have el : (enumD (fD its.length F)).length = its.length := by unfold enumD; rw [List.length_mapIdx, fD_len]
  have eg : ∀ k, k < its.length → (enumD (fD its.length F)).drop k = .tup [.int (k : Int), .int (F k)] :: (enumD (fD its.length F)).drop (k + 1) := by
    intro k hk
    rw [List.drop_eq_getElem_cons (by rw [el]; exact hk)]
    congr 1
    have : (enumD (fD its.length F))[k]? = some (.tup [.int (k : Int), .int (F k)]) := by
      unfold enumD fD
      rw [List.getElem?_mapIdx, List.getElem?_map, List.getElem?_range hk]
      rfl
    rw [List.getElem?_eq_getElem (by rw [el]; exact hk)] at this
    exact Option.some.inj this
  have tv : q * a - p * e = sumC (val its p q) (tk dec) 0 dec.length := by
    rw [← sumC_val, ← sumC_list, ← sumC_list, ← ha, ← he, hW, hE]
    rfl
  have tB : q * a + p * (room - e) + sumC F (root its dec) 0 its.length = bnd0 its dec room p q := by
    unfold bnd0
    rw [← tv, hF, Int.mul_sub]
    omega
  obtain ⟨t0, ht0⟩ : ∃ t : Int, q * a + p * (room - e) = t := ⟨_, rfl⟩
  rw [ht0] at tB
  simp -dsimp [List.replicate, lc, lw, le, sW, sE, m1, m2, te, ht0]
  obtain ⟨I, hI⟩ : ∃ I : List D → SS → Prop, I = fun (ds : List D) (S : SS) => ∃ (k : Nat) (tot : Int) (s8 s9 s10 : Option M), k ≤ its.length ∧ ds = (enumD (fD its.length F)).drop k ∧ tot + sumC F (root its dec) k (its.length - k) = bnd0 its dec room p q ∧
      S = [some (.d (.lst (itsD its))), some (.d (.int room)), some (.d (.tup [.str (txt dec), .int p, .int q])), some (.d (.lst ((tdL dec).map fun i => (ix its i).d))), some (.d (.int tot)), some (.d (.str (txt dec))), some (.d (.int p)), some (.d (.int q)), s8, s9, s10, none, none, none] := ⟨_, rfl⟩
  refine wp_forL I ?_ ?_ _ _ (by rw [hI]; exact ⟨0, t0, _, _, _, Nat.zero_le _, rfl, tB, rfl⟩)
  · intro S hS
    rw [hI] at hS
    obtain ⟨k, tot, s8, s9, s10, hk, hds, hs, rfl⟩ := hS
    have : k = its.length := by
      have := congrArg List.length hds
      rw [List.length_drop, el] at this
      simp at this
      omega
    subst this
    rw [Nat.sub_self] at hs
    have hs : tot + 0 = bnd0 its dec room p q := hs
    have hs : tot = bnd0 its dec room p q := by omega
    simp -dsimp [hs]
  · intro d ds S hS
    rw [hI] at hS
    obtain ⟨k, tot, s8, s9, s10, hk, hds, hs, rfl⟩ := hS
    have hk : k < its.length := by
      have := congrArg List.length hds
      rw [List.length_drop, el] at this
      simp at this
      omega
    rw [eg k hk] at hds
    injection hds with e1 e2
    subst e1
    obtain ⟨x, hx⟩ : ∃ x : Int, F k = x := ⟨_, rfl⟩
    rw [hx]
    refine ⟨[some (.d (.lst (itsD its))), some (.d (.int room)), some (.d (.tup [.str (txt dec), .int p, .int q])), some (.d (.lst ((tdL dec).map fun i => (ix its i).d))), some (.d (.int tot)), some (.d (.str (txt dec))), some (.d (.int p)), some (.d (.int q)), some (.d (.int (k : Int))), some (.d (.int x)), s10, none, none, none], rfl, ?_⟩
    obtain ⟨c, hc⟩ : ∃ c, its.length - k = c + 1 := ⟨its.length - k - 1, by omega⟩
    rw [hc] at hs
    have hs : tot + ((if root its dec k = true then F k else 0) + sumC F (root its dec) (k + 1) c) = bnd0 its dec room p q := hs
    have nxt : ∀ tot' : Int, tot' = tot + (if root its dec k = true then x else 0) → I ds [some (.d (.lst (itsD its))), some (.d (.int room)), some (.d (.tup [.str (txt dec), .int p, .int q])), some (.d (.lst ((tdL dec).map fun i => (ix its i).d))), some (.d (.int tot')), some (.d (.str (txt dec))), some (.d (.int p)), some (.d (.int q)), some (.d (.int (k : Int))), some (.d (.int x)), some (.d (abD (ix its k).ab)), none, none, none] := by
      intro tot' h'
      rw [hI]
      refine ⟨k + 1, tot', _, _, _, by omega, e2, ?_, rfl⟩
      rw [show its.length - (k + 1) = c by omega, ← hs, h', hx]
      omega
    have ed : (ix its k).d = .tup [abD (ix its k).ab, .int (ix its k).wo, .int (ix its k).we] := rfl
    cases h : (ix its k).ab with
    | none =>
      rw [h] at ed nxt
      have hr : root its dec k = true := by unfold root; rw [h]
      simp -dsimp [its_at its k hk, ed]
      exact nxt _ (by rw [if_pos hr])
    | some j =>
      have hj := hi.ab k j hk h
      rw [h] at ed nxt
      have hr : root its dec k = decide (j < dec.length) := by unfold root; rw [h]
      by_cases c2 : j < dec.length
      · simp -dsimp [its_at its k hk, ed, tl', tl2, show (j : Int) < (dec.length : Int) by omega, c2]
        exact nxt _ (by rw [hr, decide_eq_true c2]; rfl)
      · simp -dsimp [its_at its k hk, ed, tl', tl2, show ¬ (j : Int) < (dec.length : Int) by omega, c2]
        exact nxt _ (by rw [hr, decide_eq_false c2]; simp)
-- parts of bnd4, bnd5, k82m, k82n
theorem whole_int (n : Nat) (x : Int) : den (n + 1) "is_whole" [.d (.int x)] = .ok (.d (.bl true)) [some (.d (.int x))] := by
  refine eq_of_wp ?_
  rw [den_is_whole]
  refine run_wp rfl ?_
  unfold b_is_whole
  simp -dsimp [List.replicate, isiK]
theorem fromto_int (n : Nat) (x a b : Int) (h : a ≤ x ∧ x ≤ b) : den (n + 2) "is_from_to" [.d (.int x), .d (.int a), .d (.int b)] = .ok (.d (.bl true)) [some (.d (.int x)), some (.d (.int a)), some (.d (.int b))] := by
  refine eq_of_wp ?_
  rw [den_is_from_to]
  refine run_wp rfl ?_
  unfold b_is_from_to
  simp -dsimp [List.replicate, whole_int, h.1, h.2]
theorem item_eq (n : Nat) (its : List Itm) (hi : ItsOk its) (k : Nat) (hk : k < its.length) : den (n + 3) "is_item" [.d (ix its k).d, .d (.int (k : Int))] = .ok (.d (.bl true)) [some (.d (ix its k).d), some (.d (.int (k : Int)))] := by
  refine eq_of_wp ?_
  rw [den_is_item]
  refine run_wp rfl ?_
  unfold b_is_item
  have ed : (ix its k).d = .tup [abD (ix its k).ab, .int (ix its k).wo, .int (ix its k).we] := rfl
  have wo := hi.wo k hk
  have we := hi.we k hk
  have f1 := fromto_int n (ix its k).wo 0 1000000000 wo
  have f2 := fromto_int n (ix its k).we (-40) 40 we
  cases h : (ix its k).ab with
  | none =>
    rw [h] at ed
    simp -dsimp [List.replicate, ed, isiK, f1, f2, c_MOST_WORTH, c_MOST_WEIGHT]
  | some j =>
    have hj := hi.ab k j hk h
    have f3 := fromto_int n (j : Int) 0 ((k : Int) - 1) (by omega)
    rw [h] at ed
    simp -dsimp [List.replicate, ed, isiK, f1, f2, f3, c_MOST_WORTH, c_MOST_WEIGHT]
theorem enum_drop (its : List Itm) (k : Nat) (hk : k < its.length) : (enumD (itsD its)).drop k = .tup [.int (k : Int), (ix its k).d] :: (enumD (itsD its)).drop (k + 1) := by
  have el : (enumD (itsD its)).length = its.length := by unfold enumD; rw [List.length_mapIdx, List.length_map]
  rw [List.drop_eq_getElem_cons (by rw [el]; exact hk)]
  congr 1
  have : (enumD (itsD its))[k]? = some (.tup [.int (k : Int), (ix its k).d]) := by
    unfold enumD
    rw [List.getElem?_mapIdx, List.getElem?_map, List.getElem?_eq_getElem hk]
    unfold ix
    rw [List.getD_eq_getElem?_getD, List.getElem?_eq_getElem hk]
    rfl
  rw [List.getElem?_eq_getElem (by rw [el]; exact hk)] at this
  exact Option.some.inj this
theorem at4_int (a b c d : Int) (k : Int) (h : 0 ≤ k ∧ k < 4) : ∃ z : Int, (z = a ∨ z = b ∨ z = c ∨ z = d) ∧ atI [D.int a, .int b, .int c, .int d] k = some (.int z) := by
  have : k = 0 ∨ k = 1 ∨ k = 2 ∨ k = 3 := by omega
  rcases this with e | e | e | e <;> subst e
  · exact ⟨a, .inl rfl, by simp⟩
  · exact ⟨b, .inr (.inl rfl), by simp⟩
  · exact ⟨c, .inr (.inr (.inl rfl)), by simp⟩
  · exact ⟨d, .inr (.inr (.inr rfl)), by simp⟩
theorem room_wp (n : Nat) (g : Bag) (hg : g.Ok) {Q : M → List (Option M) → Prop}
    (h : ∀ (v : Int) (g' : Bag), 0 ≤ v ∧ v ≤ 1000 → g'.Ok → Q (.d (.int v)) [some g'.enc]) : (den (n + 2) "_law_room" [g.enc]).wp Q := by
  rw [den__law_room]
  refine run_wp rfl ?_
  unfold b__law_room
  simp -dsimp [List.replicate, den__law_take]
  refine take_wp _ g _ hg (by decide) (by decide) fun a g a0 a1 hg => ?_
  simp -dsimp
  refine take_wp _ g _ hg (by decide) (by decide) fun b g b0 b1 hg => ?_
  simp -dsimp
  refine take_wp _ g _ hg (by decide) (by decide) fun u g u0 u1 hg => ?_
  obtain ⟨z, hz, e⟩ := at4_int a b 0 60 u ⟨u0, u1⟩
  simp -dsimp [e]
  exact h z g (by omega) hg
theorem its_snoc (its : List Itm) (hi : ItsOk its) (h10 : its.length < 10) (o : Option Nat) (wo we : Int) (ho : ∀ j, o = some j → j < its.length) (h1 : 0 ≤ wo ∧ wo ≤ 1000000000) (h2 : -40 ≤ we ∧ we ≤ 40) : ItsOk (its ++ [⟨o, wo, we⟩]) := by
  have hl : (its ++ [⟨o, wo, we⟩] : List Itm).length = its.length + 1 := by rw [List.length_append]; rfl
  have hx : ∀ i, i < its.length → ix (its ++ [⟨o, wo, we⟩]) i = ix its i := fun i h => by
    unfold ix
    rw [List.getD_eq_getElem?_getD, List.getElem?_append_left h, ← List.getD_eq_getElem?_getD]
  have hy : ix (its ++ [⟨o, wo, we⟩]) its.length = ⟨o, wo, we⟩ := by
    unfold ix
    rw [List.getD_eq_getElem?_getD, List.getElem?_append_right (Nat.le_refl _), Nat.sub_self]
    rfl
  refine ⟨by omega, fun i j hi' h => ?_, fun i hi' => ?_, fun i hi' => ?_⟩ <;> by_cases c : i < its.length
  · rw [hx i c] at h; exact hi.ab i j c h
  · have : i = its.length := by omega
    subst this
    rw [hy] at h
    exact ho j h
  · rw [hx i c]; exact hi.wo i c
  · have : i = its.length := by omega
    subst this
    rw [hy]
    exact h1
  · rw [hx i c]; exact hi.we i c
  · have : i = its.length := by omega
    subst this
    rw [hy]
    exact h2
theorem items_wp (n : Nat) (g : Bag) (m : Nat) (hm : m ≤ 10) (hg : g.Ok) {Q : M → List (Option M) → Prop}
    (h : ∀ (its : List Itm) (g' : Bag), ItsOk its → its.length = m → g'.Ok → Q (.lst (itsD its)) [some g'.enc, some (.d (.int (m : Int)))]) : (den (n + 2) "_law_items" [g.enc, .d (.int (m : Int))]).wp Q := by
  rw [den__law_items]
  refine run_wp rfl ?_
  unfold b__law_items
  simp -dsimp [List.replicate, den__law_take]
  refine take_wp _ g _ hg (by decide) (by decide) fun way g w0 w1 hg => ?_
  simp -dsimp [show (m : Int) < 4611686018427387904 by omega, show -4611686018427387904 ≤ (m : Int) by omega]
  obtain ⟨I, hI⟩ : ∃ I : Nat → SS → Prop, I = fun (k : Nat) (S : SS) => ∃ (g : Bag) (its : List Itm) (s4 s5 s6 s7 s8 : Option M), g.Ok ∧ ItsOk its ∧ its.length = k ∧
    S = [some g.enc, some (.d (.int (m : Int))), some (.d (.int way)), some (.lst (itsD its)), s4, s5, s6, s7, s8] := ⟨_, rfl⟩
  refine wp_range I _ _ 0 _ (by rw [hI]; exact ⟨g, [], none, none, none, none, none, hg, ⟨by decide, fun i j h => absurd h (by simp), fun i h => absurd h (by simp), fun i h => absurd h (by simp)⟩, rfl, rfl⟩) ?_ ?_
  · intro k _ hk S hS
    rw [hI] at hS
    obtain ⟨g, its, s4, s5, s6, s7, s8, hg, hi, hl, rfl⟩ := hS
    rw [show (0 : Int) + ((k - 0 : Nat) : Int) = (k : Int) by omega]
    refine ⟨[some g.enc, some (.d (.int (m : Int))), some (.d (.int way)), some (.lst (itsD its)), some (.d (.int (k : Int))), s5, s6, s7, s8], rfl, ?_⟩
    have fin : ∀ (g : Bag) (o : Option Nat) (wo we tu : Int), g.Ok → (∀ j, o = some j → j < k) → 0 ≤ wo ∧ wo ≤ 1000000000 → -40 ≤ we ∧ we ≤ 40 → I (k + 1) [some g.enc, some (.d (.int (m : Int))), some (.d (.int way)), some (.lst (itsD its ++ [.tup [abD o, .int wo, .int we]])), some (.d (.int (k : Int))), some (.d (abD o)), some (.d (.int wo)), some (.d (.int tu)), some (.d (.int we))] := by
      intro g o wo we tu hg ho h1 h2
      rw [hI]
      refine ⟨g, its ++ [⟨o, wo, we⟩], some (.d (.int (k : Int))), some (.d (abD o)), some (.d (.int wo)), some (.d (.int tu)), some (.d (.int we)), hg, its_snoc its hi (by omega) o wo we (by rw [hl]; exact ho) h1 h2, by rw [List.length_append, hl]; rfl, ?_⟩
      rw [show itsD (its ++ [⟨o, wo, we⟩]) = itsD its ++ [.tup [abD o, .int wo, .int we]] from List.map_append]
    obtain ⟨k1, hk1⟩ : ∃ x : Int, x = (k : Int) + 1 := ⟨_, rfl⟩
    obtain ⟨k0, hk0⟩ : ∃ x : Int, x = (k : Int) - 1 := ⟨_, rfl⟩
    simp -dsimp [← hk1, ← hk0]
    refine take_wp _ g k1 hg (by omega) (by omega) fun v g v0 v1 hg => ?_
    obtain ⟨v', hv'⟩ : ∃ x : Int, x = v - 1 := ⟨_, rfl⟩
    simp -dsimp [← hv']
    refine take_wp _ g _ hg (by decide) (by decide) fun u g u0 u1 hg => ?_
    obtain ⟨A, hA, hA2⟩ : ∃ A : D, atI [D.non, .int k0, .int v'] u = some A ∧ (A = .non ∨ ∃ x : Int, A = .int x ∧ -1 ≤ x ∧ x < (k : Int)) := by
      have : u = 0 ∨ u = 1 ∨ u = 2 := by omega
      rcases this with e | e | e <;> subst e
      · exact ⟨.non, by simp, .inl rfl⟩
      · exact ⟨.int k0, by simp, .inr ⟨k0, rfl, by omega, by omega⟩⟩
      · exact ⟨.int v', by simp, .inr ⟨v', rfl, by omega, by omega⟩⟩
    obtain ⟨o, ho, hc⟩ : ∃ o : Option Nat, (∀ j, o = some j → j < k) ∧ ((A = .non ∧ o = none) ∨ (∃ x : Int, A = .int x ∧ x < 0 ∧ o = none) ∨ (∃ j : Nat, A = .int (j : Int) ∧ o = some j)) := by
      rcases hA2 with e | ⟨x, e, x0, x1⟩
      · exact ⟨none, (fun j h => by cases h), .inl ⟨e, rfl⟩⟩
      · by_cases c : x < 0
        · exact ⟨none, (fun j h => by cases h), .inr (.inl ⟨x, e, c, rfl⟩)⟩
        · obtain ⟨j, rfl⟩ : ∃ j : Nat, x = (j : Int) := ⟨x.toNat, by omega⟩
          exact ⟨some j, (fun i h => by cases h; omega), .inr (.inr ⟨j, e, rfl⟩)⟩
    have hl2 : its.length < 16777216 := by omega
    rcases hc with ⟨rfl, rfl⟩ | ⟨x, rfl, hx, rfl⟩ | ⟨j, rfl, rfl⟩
    · simp -dsimp [hA]
      refine take_wp _ g _ hg (by decide) (by decide) fun a g a0 a1 hg => ?_
      simp -dsimp
      refine take_wp _ g _ hg (by decide) (by decide) fun b g b0 b1 hg => ?_
      simp -dsimp
      refine take_wp _ g _ hg (by decide) (by decide) fun c g c0 c1 hg => ?_
      obtain ⟨wo, hwo, e⟩ := at4_int a b c 7 way ⟨w0, w1⟩
      have two : 0 ≤ wo ∧ wo ≤ 1000000000 := by omega
      simp -dsimp [e]
      refine take_wp _ g _ hg (by decide) (by decide) fun t g t0 t1 hg => ?_
      obtain ⟨tu, htu⟩ : ∃ x : Int, x = (way + t) % 4 := ⟨_, rfl⟩
      have tut : 0 ≤ tu ∧ tu < 4 := by omega
      simp -dsimp [fmod_pos (show (0 : Int) < 4 by decide), ← htu]
      refine take_wp _ g _ hg (by decide) (by decide) fun p g p0 p1 hg => ?_
      obtain ⟨p', hp'⟩ : ∃ x : Int, x = p - 2 := ⟨_, rfl⟩
      simp -dsimp [← hp']
      refine take_wp _ g _ hg (by decide) (by decide) fun q g q0 q1 hg => ?_
      obtain ⟨q', hq'⟩ : ∃ x : Int, x = 1 + q := ⟨_, rfl⟩
      simp -dsimp [← hq']
      refine take_wp _ g _ hg (by decide) (by decide) fun r g r0 r1 hg => ?_
      obtain ⟨r', hr'⟩ : ∃ x : Int, x = r - 40 := ⟨_, rfl⟩
      simp -dsimp [← hr']
      obtain ⟨we, hwe, e2⟩ := at4_int p' q' r' 5 tu tut
      have twe : -40 ≤ we ∧ we ≤ 40 := by omega
      simp -dsimp [e2, hl2]
      exact fin g none wo we tu hg ho two twe
    · simp -dsimp [hA, hx]
      refine take_wp _ g _ hg (by decide) (by decide) fun a g a0 a1 hg => ?_
      simp -dsimp
      refine take_wp _ g _ hg (by decide) (by decide) fun b g b0 b1 hg => ?_
      simp -dsimp
      refine take_wp _ g _ hg (by decide) (by decide) fun c g c0 c1 hg => ?_
      obtain ⟨wo, hwo, e⟩ := at4_int a b c 7 way ⟨w0, w1⟩
      have two : 0 ≤ wo ∧ wo ≤ 1000000000 := by omega
      simp -dsimp [e]
      refine take_wp _ g _ hg (by decide) (by decide) fun t g t0 t1 hg => ?_
      obtain ⟨tu, htu⟩ : ∃ x : Int, x = (way + t) % 4 := ⟨_, rfl⟩
      have tut : 0 ≤ tu ∧ tu < 4 := by omega
      simp -dsimp [fmod_pos (show (0 : Int) < 4 by decide), ← htu]
      refine take_wp _ g _ hg (by decide) (by decide) fun p g p0 p1 hg => ?_
      obtain ⟨p', hp'⟩ : ∃ x : Int, x = p - 2 := ⟨_, rfl⟩
      simp -dsimp [← hp']
      refine take_wp _ g _ hg (by decide) (by decide) fun q g q0 q1 hg => ?_
      obtain ⟨q', hq'⟩ : ∃ x : Int, x = 1 + q := ⟨_, rfl⟩
      simp -dsimp [← hq']
      refine take_wp _ g _ hg (by decide) (by decide) fun r g r0 r1 hg => ?_
      obtain ⟨r', hr'⟩ : ∃ x : Int, x = r - 40 := ⟨_, rfl⟩
      simp -dsimp [← hr']
      obtain ⟨we, hwe, e2⟩ := at4_int p' q' r' 5 tu tut
      have twe : -40 ≤ we ∧ we ≤ 40 := by omega
      simp -dsimp [e2, hl2]
      exact fin g none wo we tu hg ho two twe
    · simp -dsimp [hA, show ¬ (j : Int) < 0 by omega]
      refine take_wp _ g _ hg (by decide) (by decide) fun a g a0 a1 hg => ?_
      simp -dsimp
      refine take_wp _ g _ hg (by decide) (by decide) fun b g b0 b1 hg => ?_
      simp -dsimp
      refine take_wp _ g _ hg (by decide) (by decide) fun c g c0 c1 hg => ?_
      obtain ⟨wo, hwo, e⟩ := at4_int a b c 7 way ⟨w0, w1⟩
      have two : 0 ≤ wo ∧ wo ≤ 1000000000 := by omega
      simp -dsimp [e]
      refine take_wp _ g _ hg (by decide) (by decide) fun t g t0 t1 hg => ?_
      obtain ⟨tu, htu⟩ : ∃ x : Int, x = (way + t) % 4 := ⟨_, rfl⟩
      have tut : 0 ≤ tu ∧ tu < 4 := by omega
      simp -dsimp [fmod_pos (show (0 : Int) < 4 by decide), ← htu]
      refine take_wp _ g _ hg (by decide) (by decide) fun p g p0 p1 hg => ?_
      obtain ⟨p', hp'⟩ : ∃ x : Int, x = p - 2 := ⟨_, rfl⟩
      simp -dsimp [← hp']
      refine take_wp _ g _ hg (by decide) (by decide) fun q g q0 q1 hg => ?_
      obtain ⟨q', hq'⟩ : ∃ x : Int, x = 1 + q := ⟨_, rfl⟩
      simp -dsimp [← hq']
      refine take_wp _ g _ hg (by decide) (by decide) fun r g r0 r1 hg => ?_
      obtain ⟨r', hr'⟩ : ∃ x : Int, x = r - 40 := ⟨_, rfl⟩
      simp -dsimp [← hr']
      obtain ⟨we, hwe, e2⟩ := at4_int p' q' r' 5 tu tut
      have twe : -40 ≤ we ∧ we ≤ 40 := by omega
      simp -dsimp [e2, hl2]
      exact fin g (some j) wo we tu hg ho two twe
  · intro S hS
    rw [hI] at hS
    obtain ⟨g, its, s4, s5, s6, s7, s8, hg, hi, hl, rfl⟩ := hS
    simp -dsimp
    exact h its g hi (by omega) hg
theorem txt_snoc (dec : List Bool) (b : Bool) : txt dec ++ (⟨#[sg b]⟩ : Str) = txt (dec ++ [b]) := by
  apply tl_ext
  rw [tl_app, txt_tl, txt_tl, List.map_append, tl_one]
  rfl
noncomputable def tkL (t : Nat → Bool) (k : Nat) : List Nat := (List.range' 0 k).filter t
noncomputable def natD (T : List Nat) : List D := T.map fun i : Nat => .int (i : Int)
theorem tkL_mem {t : Nat → Bool} {k i : Nat} : i ∈ tkL t k ↔ i < k ∧ t i = true := by
  unfold tkL
  rw [List.mem_filter, List.mem_range'_1]
  constructor
  · exact fun h => ⟨by omega, h.2⟩
  · exact fun h => ⟨by omega, h.2⟩
theorem tkL_succ (t : Nat → Bool) (k : Nat) : tkL t (k + 1) = tkL t k ++ (if t k then [k] else []) := by
  unfold tkL
  rw [List.range'_concat, List.filter_append]
  congr 1
  rw [show 0 + 1 * k = k by omega]
  cases h : t k <;> simp [h]
theorem tkL_len (t : Nat → Bool) (k : Nat) : (tkL t k).length ≤ k := by
  unfold tkL
  have := List.length_filter_le t (List.range' 0 k)
  rw [List.length_range'] at this
  exact this
theorem inD_nats (a : Nat) (T : List Nat) : inD (.int (a : Int)) (.lst (natD T)) = some (.d (.bl (decide (a ∈ T)))) := by
  have h1 : D.pls (natD T) = true := pls_of fun d hd => by obtain ⟨b, _, rfl⟩ := List.mem_map.mp hd; rfl
  have h2 : inOk (.int (a : Int)) (natD T) = true := by
    unfold inOk
    simp [h1]
  have h3 : ((natD T).any fun y => D.eqb y (.int (a : Int))) = decide (a ∈ T) := by
    unfold natD
    induction T with
    | nil => rfl
    | cons w ws ih =>
      have ih := ih (pls_of fun d hd => by obtain ⟨b, _, rfl⟩ := List.mem_map.mp hd; rfl) (by
        unfold inOk
        have : D.pls (natD ws) = true := pls_of fun d hd => by obtain ⟨b, _, rfl⟩ := List.mem_map.mp hd; rfl
        simp [this])
      rw [List.map_cons, List.any_cons, ih]
      show (decide ((w : Int) = (a : Int)) || _) = _
      by_cases h : w = a
      · subst h; simp
      · have : ¬ (w : Int) = (a : Int) := by omega
        simp [this, Ne.symm h]
  show (if inOk (.int (a : Int)) (natD T) = true then some (M.d (.bl ((natD T).any fun y => D.eqb y (.int (a : Int))))) else none) = _
  rw [if_pos h2, h3]
-- may_take, taking_at, line_of
noncomputable def mayB (its : List Itm) (dec : List Bool) : Bool := match (ix its dec.length).ab with
  | none => true
  | some j => tk dec j
theorem may_eq (n : Nat) (its : List Itm) (dec : List Bool) (hi : ItsOk its) (hd : dec.length < its.length) :
    den (n + 1) "may_take" [.d (.lst (itsD its)), .d (.str (txt dec))] = .ok (.d (.bl (mayB its dec))) [some (.d (.lst (itsD its))), some (.d (.str (txt dec)))] := by
  refine eq_of_wp ?_
  have n10 := hi.n10
  have tl' := txt_len dec
  have tl2 : dec.length ≤ 16777216 := by omega
  have ed : (ix its dec.length).d = .tup [abD (ix its dec.length).ab, .int (ix its dec.length).wo, .int (ix its dec.length).we] := rfl
  rw [den_may_take]
  refine run_wp rfl ?_
  unfold b_may_take mayB
  cases ha : (ix its dec.length).ab with
  | none =>
    rw [ha] at ed
    simp -dsimp [List.replicate, tl2, tl', its_at its dec.length hd, ed]
  | some j =>
    have hj := hi.ab _ j hd ha
    rw [ha] at ed
    simp -dsimp [List.replicate, tl2, tl', its_at its dec.length hd, ed, txt_at dec j hj, sg_1]
/-- what is taken at a rate -/
noncomputable def tkS (its : List Itm) (dec : List Bool) (p q : Int) : Nat → List Bool
  | 0 => []
  | k + 1 => tkS its dec p q k ++ [if k < dec.length then tk dec k else fr its dec k && (decide (0 < top its p q k) && (match (ix its k).ab with
    | none => true
    | some j => tk (tkS its dec p q k) j))]
theorem tkS_len (its : List Itm) (dec : List Bool) (p q : Int) : ∀ k, (tkS its dec p q k).length = k
  | 0 => rfl
  | k + 1 => by
    show (tkS its dec p q k ++ [_]).length = _
    rw [List.length_append, tkS_len its dec p q k]
    rfl
theorem tkS_get (its : List Itm) (dec : List Bool) (p q : Int) : ∀ (k m i : Nat), i < k → k ≤ m → tk (tkS its dec p q m) i = tk (tkS its dec p q k) i := by
  intro k m i hi hk
  induction m with
  | zero => omega
  | succ m ih =>
    by_cases e : k = m + 1
    · rw [e]
    · show tk (tkS its dec p q m ++ [_]) i = _
      rw [tk_left _ _ _ (by rw [tkS_len]; omega)]
      exact ih (by omega)
noncomputable def tS (its : List Itm) (dec : List Bool) (p q : Int) (i : Nat) : Bool := tk (tkS its dec p q its.length) i
theorem tS_eq (its : List Itm) (dec : List Bool) (p q : Int) (i : Nat) (hi : i < its.length) (hab : ∀ j, (ix its i).ab = some j → j < i) : tS its dec p q i = if i < dec.length then tk dec i else fr its dec i && (decide (0 < top its p q i) && (match (ix its i).ab with
    | none => true
    | some j => tS its dec p q j)) := by
  have e : tS its dec p q i = tk (tkS its dec p q (i + 1)) i := tkS_get its dec p q (i + 1) its.length i (by omega) (by omega)
  rw [e]
  show tk (tkS its dec p q i ++ [_]) i = _
  rw [tk_last _ _ _ (tkS_len its dec p q i).symm]
  cases h : (ix its i).ab with
  | none => rfl
  | some j =>
    have hj := hab j h
    show (if i < dec.length then _ else fr its dec i && (_ && tk (tkS its dec p q i) j)) = (if i < dec.length then _ else fr its dec i && (_ && tS its dec p q j))
    have : tS its dec p q j = tk (tkS its dec p q i) j := by
      unfold tS
      rw [tkS_get its dec p q (j + 1) its.length j (by omega) (by omega), tkS_get its dec p q (j + 1) i j (by omega) (by omega)]
    rw [this]
theorem taking_eq (n : Nat) (its : List Itm) (dec : List Bool) (p q : Int) (hi : ItsOk its) (hd : dec.length ≤ its.length) (hr : Rat2 p q) :
    den (n + 3) "taking_at" [.d (.lst (itsD its)), .d (.str (txt dec)), .d (.int p), .d (.int q)] =
      .ok (.lst (natD (tkL (tS its dec p q) its.length))) [some (.d (.lst (itsD its))), some (.d (.str (txt dec))), some (.d (.int p)), some (.d (.int q))] := by
  refine eq_of_wp ?_
  have n10 := hi.n10
  have tl' := txt_len dec
  have tl2 : dec.length ≤ 16777216 := by omega
  have fw := free_wp (n + 1) its dec hi hd
  have tw := tops_eq n its dec p q hi hd hr
  obtain ⟨F, hF⟩ : ∃ F : Nat → Int, F = fun i => if fr its dec i then top its p q i else 0 := ⟨_, rfl⟩
  rw [← hF] at tw
  obtain ⟨B, hB⟩ : ∃ B : List D, B = (frL its dec its.length).map .bl := ⟨_, rfl⟩
  have bat : ∀ k, k < its.length → atI B (k : Int) = some (.bl (fr its dec k)) := by rw [hB]; exact fun k hk => bl_at its dec k hk
  rw [← hB] at fw
  obtain ⟨T, hT⟩ : ∃ T : Nat → Bool, T = tS its dec p q := ⟨_, rfl⟩
  have te := fun i (h : i < its.length) => tS_eq its dec p q i h (fun j => hi.ab i j h)
  rw [← hT] at te ⊢
  have nm : ∀ k, (tkL T k).length ≤ k := fun k => tkL_len T k
  have ns : ∀ k, natD (tkL T (k + 1)) = if T k = true then natD (tkL T k) ++ [.int (k : Int)] else natD (tkL T k) := by
    intro k
    rw [tkL_succ]
    unfold natD
    cases T k <;> simp
  have nlen : ∀ k, (natD (tkL T k)).length ≤ k := fun k => by unfold natD; rw [List.length_map]; exact nm k
  rw [den_taking_at]
  refine run_wp rfl ?_
  unfold b_taking_at
  simp -dsimp [List.replicate, fw, tw]
  obtain ⟨I, hI⟩ : ∃ I : List D → SS → Prop, I = fun (ds : List D) (S : SS) => ∃ (k : Nat) (s7 s8 s9 s10 s11 : Option M), k ≤ its.length ∧ ds = (enumD (itsD its)).drop k ∧ S = [some (.d (.lst (itsD its))), some (.d (.str (txt dec))), some (.d (.int p)), some (.d (.int q)), some (.lst B), some (.lst (fD its.length F)), some (.lst (natD (tkL T k))), s7, s8, s9, s10, s11] := ⟨_, rfl⟩
  have el : (enumD (itsD its)).length = its.length := by unfold enumD; rw [List.length_mapIdx, List.length_map]
  refine wp_forL I ?_ ?_ _ _ (by rw [hI]; exact ⟨0, _, _, _, _, _, Nat.zero_le _, rfl, rfl⟩)
  · intro S hS
    rw [hI] at hS
    obtain ⟨k, s7, s8, s9, s10, s11, hk, hds, rfl⟩ := hS
    have : k = its.length := by
      have := congrArg List.length hds
      rw [List.length_drop, el] at this
      simp at this
      omega
    subst this
    simp -dsimp
  · intro d ds S hS
    rw [hI] at hS
    obtain ⟨k, s7, s8, s9, s10, s11, hk, hds, rfl⟩ := hS
    have hk : k < its.length := by
      have := congrArg List.length hds
      rw [List.length_drop, el] at this
      simp at this
      omega
    rw [enum_drop its k hk] at hds
    injection hds with e1 e2
    subst e1
    refine ⟨[some (.d (.lst (itsD its))), some (.d (.str (txt dec))), some (.d (.int p)), some (.d (.int q)), some (.lst B), some (.lst (fD its.length F)), some (.lst (natD (tkL T k))), some (.d (.int (k : Int))), some (.d (abD (ix its k).ab)), some (.d (.int (ix its k).wo)), some (.d (.int (ix its k).we)), s11], rfl, ?_⟩
    have tk' := te k hk
    have nk := ns k
    have lk := nlen k
    have fin : ∀ (s11 : Option M), I ds [some (.d (.lst (itsD its))), some (.d (.str (txt dec))), some (.d (.int p)), some (.d (.int q)), some (.lst B), some (.lst (fD its.length F)), some (.lst (natD (tkL T (k + 1)))), some (.d (.int (k : Int))), some (.d (abD (ix its k).ab)), some (.d (.int (ix its k).wo)), some (.d (.int (ix its k).we)), s11] := by
      intro s11
      rw [hI]
      exact ⟨k + 1, _, _, _, _, _, by omega, e2, rfl⟩
    have up : ∀ (b : Bool) (S11 : Option M), T k = b → (if b = true then I ds [some (.d (.lst (itsD its))), some (.d (.str (txt dec))), some (.d (.int p)), some (.d (.int q)), some (.lst B), some (.lst (fD its.length F)), some (.lst (natD (tkL T k) ++ [.int (k : Int)])), some (.d (.int (k : Int))), some (.d (abD (ix its k).ab)), some (.d (.int (ix its k).wo)), some (.d (.int (ix its k).we)), S11]
        else I ds [some (.d (.lst (itsD its))), some (.d (.str (txt dec))), some (.d (.int p)), some (.d (.int q)), some (.lst B), some (.lst (fD its.length F)), some (.lst (natD (tkL T k))), some (.d (.int (k : Int))), some (.d (abD (ix its k).ab)), some (.d (.int (ix its k).wo)), some (.d (.int (ix its k).we)), S11]) := by
      intro b S11 hb
      have := fin S11
      rw [nk, hb] at this
      cases b <;> exact this
    have Fk : F k = if fr its dec k then top its p q k else 0 := by rw [hF]
    have sm : (natD (tkL T k)).length < 16777216 := by omega
    by_cases c : k < dec.length
    · rw [if_pos c] at tk'
      have := fun S11 => up (tk dec k) S11 tk'
      cases ht : tk dec k with
      | true =>
        rw [ht] at this
        simp -dsimp [tl2, tl', c, show (k : Int) < (dec.length : Int) by omega, txt_at dec k c, sg_1, ht, sm]
        exact this _
      | false =>
        rw [ht] at this
        simp -dsimp [tl2, tl', c, show (k : Int) < (dec.length : Int) by omega, txt_at dec k c, sg_1, ht, sm]
        exact this _
    · rw [if_neg c] at tk'
      have cI : ¬ (k : Int) < (dec.length : Int) := by omega
      cases hf : fr its dec k with
      | false =>
        rw [hf] at tk'
        have h1 := fun S11 => up false S11 tk'
        simp -dsimp [tl2, tl', c, cI, bat k hk, hf]
        exact h1 _
      | true =>
        rw [hf] at tk' Fk
        rw [if_pos rfl] at Fk
        rw [Bool.true_and] at tk'
        by_cases c0 : 0 < top its p q k
        · rw [decide_eq_true c0, Bool.true_and] at tk'
          cases ha : (ix its k).ab with
          | none =>
            rw [ha] at tk' up
            have h1 := fun S11 => up true S11 tk'
            simp -dsimp [tl2, tl', c, cI, bat k hk, hf, fD_at _ _ k hk, Fk, c0, sm]
            exact h1 _
          | some j =>
            rw [ha] at tk' up
            have hj := hi.ab k j hk ha
            have hin : decide (j ∈ tkL T k) = T j := by
              cases hT' : T j with
              | true => exact decide_eq_true (tkL_mem.mpr ⟨hj, hT'⟩)
              | false => exact decide_eq_false fun z => by rw [(tkL_mem.mp z).2] at hT'; cases hT'
            have hin2 := inD_nats j (tkL T k)
            rw [hin] at hin2
            cases hT' : T j with
            | true =>
              have h1 := fun S11 => up true S11 (by rw [tk']; exact hT')
              rw [hT'] at hin2
              simp -dsimp [tl2, tl', c, cI, bat k hk, hf, fD_at _ _ k hk, Fk, c0, sm, hin2]
              exact h1 _
            | false =>
              have h1 := fun S11 => up false S11 (by rw [tk']; exact hT')
              rw [hT'] at hin2
              simp -dsimp [tl2, tl', c, cI, bat k hk, hf, fD_at _ _ k hk, Fk, c0, sm, hin2]
              exact h1 _
        · rw [decide_eq_false c0, Bool.false_and] at tk'
          have h1 := fun S11 => up false S11 tk'
          simp -dsimp [tl2, tl', c, cI, bat k hk, hf, fD_at _ _ k hk, Fk, c0]
          exact h1 _
-- line_of, Search.note, Search.try_rate
noncomputable def woS (its : List Itm) (t : Nat → Bool) : Int := sumC (fun i => (ix its i).wo) t 0 its.length
noncomputable def weS (its : List Itm) (t : Nat → Bool) : Int := sumC (fun i => (ix its i).we) t 0 its.length
theorem sumC_bd (f : Nat → Int) (P : Nat → Bool) (a b : Int) (ha : a ≤ 0) (hb : 0 ≤ b) : ∀ (c k : Nat), (∀ j, k ≤ j → j < k + c → a ≤ f j ∧ f j ≤ b) → a * c ≤ sumC f P k c ∧ sumC f P k c ≤ b * c
  | 0, _, _ => by
    show a * 0 ≤ 0 ∧ 0 ≤ b * 0
    rw [Int.mul_zero, Int.mul_zero]
    exact ⟨Int.le_refl _, Int.le_refl _⟩
  | c + 1, k, h => by
    have ih := sumC_bd f P a b ha hb c (k + 1) fun j h1 h2 => h j (by omega) (by omega)
    have h0 := h k (Nat.le_refl _) (by omega)
    show a * ((c + 1 : Nat) : Int) ≤ (if P k then f k else 0) + sumC f P (k + 1) c ∧ (if P k then f k else 0) + sumC f P (k + 1) c ≤ b * ((c + 1 : Nat) : Int)
    rw [Int.natCast_add, Int.mul_add, Int.mul_add]
    show a * c + a * 1 ≤ _ ∧ _ ≤ b * c + b * 1
    by_cases hp : P k = true
    · rw [if_pos hp]; omega
    · rw [if_neg hp]; omega
theorem woS_bd (its : List Itm) (hi : ItsOk its) (t : Nat → Bool) : 0 ≤ woS its t ∧ woS its t ≤ 10000000000 := by
  have := sumC_bd (fun i => (ix its i).wo) t 0 1000000000 (by decide) (by decide) its.length 0 fun j _ h => hi.wo j (by omega)
  have n10 := hi.n10
  unfold woS
  omega
theorem weS_bd (its : List Itm) (hi : ItsOk its) (t : Nat → Bool) : -400 ≤ weS its t ∧ weS its t ≤ 400 := by
  have := sumC_bd (fun i => (ix its i).we) t (-40) 40 (by decide) (by decide) its.length 0 fun j _ h => hi.we j (by omega)
  have n10 := hi.n10
  unfold weS
  omega
theorem lineof_eq (n : Nat) (its : List Itm) (t : Nat → Bool) (room : Int) (hi : ItsOk its) :
    den (n + 1) "line_of" [.d (.lst (itsD its)), .d (.int room), .lst (natD (tkL t its.length))] =
      .ok (.d (.tup [.int (woS its t), .int (room - weS its t)])) [some (.d (.lst (itsD its))), some (.d (.int room)), some (.lst (natD (tkL t its.length)))] := by
  refine eq_of_wp ?_
  have n10 := hi.n10
  have nm := tkL_len t its.length
  have mem : ∀ d ∈ natD (tkL t its.length), ∃ i : Nat, i < its.length ∧ d = .int (i : Int) := by
    intro d hd
    obtain ⟨i, h1, rfl⟩ := List.mem_map.mp hd
    exact ⟨i, (tkL_mem.mp h1).1, rfl⟩
  have nl : (natD (tkL t its.length)).length ≤ line := by unfold natD; rw [List.length_map]; simp; omega
  rw [den_line_of]
  refine run_wp rfl ?_
  unfold b_line_of
  obtain ⟨L, hL⟩ : ∃ L, L = natD (tkL t its.length) := ⟨_, rfl⟩
  have l1 : mLc [3] (iSeq (eN 2)) (gN 3) tTrue (eM (mBin ixD (eM (mBin ixD (eN 0) (eN 3))) (eC (.int 1)))) [some (.d (.lst (itsD its))), some (.d (.int room)), some (.d (.lst L)), none] =
      .ok (.lst (((tkL t its.length).map fun i => (ix its i).wo).map D.int)) [some (.d (.lst (itsD its))), some (.d (.int room)), some (.d (.lst L)), none] := by
    have e2 := mLc_mapP (own := [3]) (fi := iSeq (eN 2)) (g := gN 3) (fe := eM (mBin ixD (eM (mBin ixD (eN 0) (eN 3))) (eC (.int 1)))) (S := [some (.d (.lst (itsD its))), some (.d (.int room)), some (.d (.lst L)), none])
      (S1 := [some (.d (.lst (itsD its))), some (.d (.int room)), some (.d (.lst L)), none]) (ds := L) (fun d => match d with | .int i => .int (ix its i.toNat).wo | d => d) (by simp -dsimp) (by
      intro d hd
      rw [hL] at hd
      obtain ⟨i, hi', rfl⟩ := mem d hd
      have ed : (ix its i).d = .tup [abD (ix its i).ab, .int (ix its i).wo, .int (ix its i).we] := rfl
      refine ⟨[some (.d (.lst (itsD its))), some (.d (.int room)), some (.d (.lst L)), some (.d (.int (i : Int)))], rfl, ?_⟩
      simp -dsimp [wipeS, its_at its i hi', ed]) (by rw [hL]; exact nl)
    rw [e2, hL]
    unfold natD
    rw [List.map_map, List.map_map]
    rfl
  have l2 : mLc [3] (iSeq (eN 2)) (gN 3) tTrue (eM (mBin ixD (eM (mBin ixD (eN 0) (eN 3))) (eC (.int 2)))) [some (.d (.lst (itsD its))), some (.d (.int room)), some (.d (.lst L)), none] =
      .ok (.lst (((tkL t its.length).map fun i => (ix its i).we).map D.int)) [some (.d (.lst (itsD its))), some (.d (.int room)), some (.d (.lst L)), none] := by
    have e2 := mLc_mapP (own := [3]) (fi := iSeq (eN 2)) (g := gN 3) (fe := eM (mBin ixD (eM (mBin ixD (eN 0) (eN 3))) (eC (.int 2)))) (S := [some (.d (.lst (itsD its))), some (.d (.int room)), some (.d (.lst L)), none])
      (S1 := [some (.d (.lst (itsD its))), some (.d (.int room)), some (.d (.lst L)), none]) (ds := L) (fun d => match d with | .int i => .int (ix its i.toNat).we | d => d) (by simp -dsimp) (by
      intro d hd
      rw [hL] at hd
      obtain ⟨i, hi', rfl⟩ := mem d hd
      have ed : (ix its i).d = .tup [abD (ix its i).ab, .int (ix its i).wo, .int (ix its i).we] := rfl
      refine ⟨[some (.d (.lst (itsD its))), some (.d (.int room)), some (.d (.lst L)), some (.d (.int (i : Int)))], rfl, ?_⟩
      simp -dsimp [wipeS, its_at its i hi', ed]) (by rw [hL]; exact nl)
    rw [e2, hL]
    unfold natD
    rw [List.map_map, List.map_map]
    rfl
  have s1 : sumD (.lst (((tkL t its.length).map fun i => (ix its i).wo).map D.int)) = some (.d (.int (woS its t))) := by
    rw [sumD_ints]
    unfold woS tkL
    rw [sumC_list]
  have s2 : sumD (.lst (((tkL t its.length).map fun i => (ix its i).we).map D.int)) = some (.d (.int (weS its t))) := by
    rw [sumD_ints]
    unfold weS tkL
    rw [sumC_list]
  obtain ⟨W, hW⟩ : ∃ W : List D, W = ((tkL t its.length).map fun i => (ix its i).wo).map D.int := ⟨_, rfl⟩
  obtain ⟨E, hE⟩ : ∃ W : List D, W = ((tkL t its.length).map fun i => (ix its i).we).map D.int := ⟨_, rfl⟩
  rw [← hW] at l1 s1
  rw [← hE] at l2 s2
  rw [← hL]
  have f1 : (M.lst W).flat = true := by
    show W.all D.flat = true
    rw [hW, List.all_map]
    exact List.all_eq_true.mpr fun _ _ => rfl
  have f2 : (M.lst E).flat = true := by
    show E.all D.flat = true
    rw [hE, List.all_map]
    exact List.all_eq_true.mpr fun _ _ => rfl
  have p1 : mPeek (mLc [3] (iSeq (eN 2)) (gN 3) tTrue (eM (mBin ixD (eM (mBin ixD (eN 0) (eN 3))) (eC (.int 1))))) [some (.d (.lst (itsD its))), some (.d (.int room)), some (.lst L), none] = .ok (.lst W) [some (.d (.lst (itsD its))), some (.d (.int room)), some (.lst L), none] := by
    rw [mPeek_ap]
    show (match mLc [3] (iSeq (eN 2)) (gN 3) tTrue (eM (mBin ixD (eM (mBin ixD (eN 0) (eN 3))) (eC (.int 1)))) [some (.d (.lst (itsD its))), some (.d (.int room)), some (.d (.lst L)), none] with | .ok m _ => if m.flat = true then Ev.R.ok m _ else .no | _ => .no) = _
    rw [l1]
    exact if_pos f1
  have p2 : mPeek (mLc [3] (iSeq (eN 2)) (gN 3) tTrue (eM (mBin ixD (eM (mBin ixD (eN 0) (eN 3))) (eC (.int 2))))) [some (.d (.lst (itsD its))), some (.d (.int room)), some (.lst L), none] = .ok (.lst E) [some (.d (.lst (itsD its))), some (.d (.int room)), some (.lst L), none] := by
    rw [mPeek_ap]
    show (match mLc [3] (iSeq (eN 2)) (gN 3) tTrue (eM (mBin ixD (eM (mBin ixD (eN 0) (eN 3))) (eC (.int 2)))) [some (.d (.lst (itsD its))), some (.d (.int room)), some (.d (.lst L)), none] with | .ok m _ => if m.flat = true then Ev.R.ok m _ else .no | _ => .no) = _
    rw [l2]
    exact if_pos f2
  simp -dsimp [-mPeek_ap, List.replicate, p1, p2, s1, s2]
theorem fx_rows : (["rows", "room", "worth", "held", "leaves"] : List Str).findIdx? (fun y => y == ("rows" : Str)) = some 0 := by decide +kernel
theorem fx_room : (["rows", "room", "worth", "held", "leaves"] : List Str).findIdx? (fun y => y == ("room" : Str)) = some 1 := by decide +kernel
theorem fx_worth : (["rows", "room", "worth", "held", "leaves"] : List Str).findIdx? (fun y => y == ("worth" : Str)) = some 2 := by decide +kernel
theorem fx_held : (["rows", "room", "worth", "held", "leaves"] : List Str).findIdx? (fun y => y == ("held" : Str)) = some 3 := by decide +kernel
theorem fx_leaves : (["rows", "room", "worth", "held", "leaves"] : List Str).findIdx? (fun y => y == ("leaves" : Str)) = some 4 := by decide +kernel
theorem nf_note : ¬ ("note" : Str) = "rows" ∧ ¬ ("note" : Str) = "room" ∧ ¬ ("note" : Str) = "worth" ∧ ¬ ("note" : Str) = "held" ∧ ¬ ("note" : Str) = "leaves" := by decide +kernel
theorem nf_try_rate : ¬ ("try_rate" : Str) = "rows" ∧ ¬ ("try_rate" : Str) = "room" ∧ ¬ ("try_rate" : Str) = "worth" ∧ ¬ ("try_rate" : Str) = "held" ∧ ¬ ("try_rate" : Str) = "leaves" := by decide +kernel
theorem nf_is_closed : ¬ ("is_closed" : Str) = "rows" ∧ ¬ ("is_closed" : Str) = "room" ∧ ¬ ("is_closed" : Str) = "worth" ∧ ¬ ("is_closed" : Str) = "held" ∧ ¬ ("is_closed" : Str) = "leaves" := by decide +kernel
/-- the search as it stands -/
noncomputable def seO (its : List Itm) (room w : Int) (hd : List D) (lv : List D) : M := .ob "Search" ["rows", "room", "worth", "held", "leaves"] [.d (.lst (itsD its)), .d (.int room), .d (.int w), .lst hd, .lst lv]
theorem note_eq (n : Nat) (its : List Itm) (t : Nat → Bool) (room w : Int) (hd : List D) (lv : List D) (hi : ItsOk its) (T : List D) (hT : T = natD (tkL t its.length)) :
    den (n + 2) "Search.note" [seO its room w hd lv, .lst T] =
      .ok (.d (.tup [.int (woS its t), .int (room - weS its t)])) [some (seO its room (if 0 ≤ room - weS its t ∧ w < woS its t then woS its t else w) (if 0 ≤ room - weS its t ∧ w < woS its t then T else hd) lv), if 0 ≤ room - weS its t ∧ w < woS its t then none else some (.lst T)] := by
  refine eq_of_wp ?_
  have le := lineof_eq n its t room hi
  rw [← hT] at le
  obtain ⟨x, hx⟩ : ∃ x, x = woS its t := ⟨_, rfl⟩
  obtain ⟨y, hy⟩ : ∃ y, y = room - weS its t := ⟨_, rfl⟩
  rw [← hx, ← hy] at le ⊢
  rw [den_Search__note]
  refine run_wp rfl ?_
  unfold b_Search__note seO
  by_cases c : 0 ≤ y
  · by_cases c2 : w < x
    · simp -dsimp [List.replicate, le, c, c2, fx_rows, fx_room, fx_worth, fx_held, fx_leaves]
    · simp -dsimp [List.replicate, le, c, c2, fx_rows, fx_room, fx_worth, fx_held, fx_leaves]
  · simp -dsimp [List.replicate, le, c, fx_rows, fx_room, fx_worth, fx_held, fx_leaves]
noncomputable def nw (room w x y : Int) : Int := if 0 ≤ y ∧ w < x then x else w
-- Search.is_closed
theorem tS_full (its : List Itm) (dec : List Bool) (p q : Int) (hi : ItsOk its) (hf : dec.length = its.length) : ∀ i, i < its.length → tS its dec p q i = tk dec i := fun i h => by
  rw [tS_eq its dec p q i h (fun j => hi.ab i j h), if_pos (by omega)]
theorem bnd0_full (its : List Itm) (dec : List Bool) (room p q : Int) (hi : ItsOk its) (hd : dec.length = its.length) : bnd0 its dec room p q = q * woS its (tk dec) + p * (room - weS its (tk dec)) := by
  unfold bnd0
  have h1 := sumC_val its p q (tk dec) dec.length 0
  have h7 := sumC_zero (fun i => if fr its dec i then top its p q i else 0) (root its dec) its.length 0 fun j _ h => by
    show (if fr its dec j then top its p q j else 0) = 0
    rw [fr_eq its dec j (by omega) (fun a ha => hi.ab j a (by omega) ha), if_pos (show j < dec.length by omega)]
    rfl
  rw [h7, ← h1, hd, Int.mul_sub]
  unfold woS weS
  omega
-- look_at
theorem eq_of_wpxo {r : CR} {a : M} {S : List (Option M)} (h : r.wpx (fun b T => b = a ∧ T = S) (fun _ _ => False)) : r = .ok a S := by
  rcases CR.wpx_or h with ⟨b, T, e, rfl, rfl⟩ | ⟨_, _, _, h⟩
  · exact e
  · exact h.elim
noncomputable def gdI (n : Nat) (k : Nat) (x : D) : Prop := den (n + 3) "is_item" [.d x, .d (.int (k : Int))] = .ok (.d (.bl true)) [some (.d x), some (.d (.int (k : Int)))]
theorem enumL_drop (L : List D) (k : Nat) (hk : k < L.length) : (enumD L).drop k = .tup [.int (k : Int), L[k]] :: (enumD L).drop (k + 1) := by
  have el : (enumD L).length = L.length := by unfold enumD; rw [List.length_mapIdx]
  rw [List.drop_eq_getElem_cons (by rw [el]; exact hk)]
  congr 1
  have : (enumD L)[k]? = some (.tup [.int (k : Int), L[k]]) := by
    unfold enumD
    rw [List.getElem?_mapIdx, List.getElem?_eq_getElem hk]
    rfl
  rw [List.getElem?_eq_getElem (by rw [el]; exact hk)] at this
  exact Option.some.inj this
theorem look_ok (n : Nat) (L : List D) (hn : L.length ≤ 10) (hg : ∀ k (hk : k < L.length), gdI n k L[k]) : den (n + 4) "look_at" [.d (.lst L)] = .ok (.d .non) [some (.d (.lst L))] := by
  refine eq_of_wpxo ?_
  have el : (enumD L).length = L.length := by unfold enumD; rw [List.length_mapIdx]
  rw [den_look_at]
  refine run_wpx rfl ?_
  unfold b_look_at
  simp -dsimp [List.replicate, isiK]
  obtain ⟨I, hI⟩ : ∃ I : List D → SS → Prop, I = fun (ds : List D) (S : SS) => ∃ (k : Nat) (s1 s2 : Option M), k ≤ L.length ∧ ds = (enumD L).drop k ∧ S = [some (.d (.lst L)), s1, s2] := ⟨_, rfl⟩
  refine wpx_forL I ?_ ?_ _ _ (by rw [hI]; exact ⟨0, _, _, Nat.zero_le _, rfl, rfl⟩)
  · intro S hS
    rw [hI] at hS
    obtain ⟨k, s1, s2, hk, hds, rfl⟩ := hS
    simp -dsimp
  · intro d ds S hS
    rw [hI] at hS
    obtain ⟨k, s1, s2, hk, hds, rfl⟩ := hS
    have hk : k < L.length := by
      have := congrArg List.length hds
      rw [List.length_drop, el] at this
      simp at this
      omega
    rw [enumL_drop L k hk] at hds
    injection hds with e1 e2
    subst e1
    refine ⟨[some (.d (.lst L)), some (.d (.int (k : Int))), some (.d L[k])], rfl, ?_⟩
    have g := hg k hk
    obtain ⟨x, hx⟩ : ∃ x, x = L[k] := ⟨_, rfl⟩
    rw [← hx] at g ⊢
    unfold gdI at g
    simp -dsimp [g, c_MOST_ITEMS, show ¬ (k : Int) = 10 by omega, show ¬ k = 10 by omega]
    rw [hI]
    exact ⟨k + 1, _, _, by omega, e2, rfl⟩
-- best
theorem ne_nl : neD (.lst []) (.lst []) = some (.d (.bl false)) := rfl
noncomputable def LfT (d : D) : Prop := ∃ (s : Str) (p q : Int), d = .tup [.str s, .int p, .int q]
theorem lf_pls : ∀ (lv : List D), (∀ d ∈ lv, LfT d) → D.pls lv = true ∧ D.deps lv ≤ 2
  | [], _ => ⟨rfl, by decide⟩
  | x :: xs, h => by
    have ih := lf_pls xs fun d hd => h d (List.mem_cons_of_mem _ hd)
    obtain ⟨s, p, q, rfl⟩ := h x List.mem_cons_self
    refine ⟨ih.1, ?_⟩
    show max (D.dep (.tup [.str s, .int p, .int q])) (D.deps xs) ≤ 2
    have e : D.dep (.tup [.str s, .int p, .int q]) ≤ 2 := by simp [D.dep, D.deps]
    exact Nat.max_le.mpr ⟨e, ih.2⟩
theorem lf_sort (lv : List D) (h : ∀ d ∈ lv, LfT d) (hl : lv.length ≤ 16777216) : sortOk lv = true := by
  have hp := lf_pls lv h
  have h1 : lv.all isT1 = true := List.all_eq_true.mpr fun d hd => by obtain ⟨s, p, q, rfl⟩ := h d hd; rfl
  have h2 : (lv.all fun a => lv.all fun b => PySem.W.alike a.py b.py) = true := List.all_eq_true.mpr fun d hd => List.all_eq_true.mpr fun d' hd' => by
    obtain ⟨s, p, q, rfl⟩ := h d hd
    obtain ⟨s', p', q', rfl⟩ := h d' hd'
    rfl
  unfold sortOk
  rw [hp.1, h1, h2, decide_eq_true (show D.deps lv ≤ 190 by have := hp.2; omega), decide_eq_true (show lv.length ≤ line from hl)]
  rfl
noncomputable def mu (N : Nat) (ws : List (List Bool)) : Nat := (ws.map fun t => 2 ^ (N + 1 - t.length) - 1).sum
theorem mu_snoc (N : Nat) (ws : List (List Bool)) (x : List Bool) : mu N (ws ++ [x]) = mu N ws + (2 ^ (N + 1 - x.length) - 1) := by
  unfold mu
  rw [List.map_append, List.sum_append]
  rfl
theorem mu_len (N : Nat) : ∀ ws : List (List Bool), (∀ t ∈ ws, t.length ≤ N) → ws.length ≤ mu N ws
  | [], _ => Nat.zero_le _
  | t :: ws, h => by
    have ih := mu_len N ws fun z hz => h z (List.mem_cons_of_mem _ hz)
    have ht := h t List.mem_cons_self
    have : 2 ≤ 2 ^ (N + 1 - t.length) := by
      have := Nat.pow_le_pow_right (n := 2) (by decide) (show 1 ≤ N + 1 - t.length by omega)
      simpa using this
    show ws.length + 1 ≤ (2 ^ (N + 1 - t.length) - 1) + mu N ws
    omega
noncomputable def txs (ws : List (List Bool)) : List D := ws.map fun t => .str (txt t)
theorem txs_snoc (ws : List (List Bool)) (x : List Bool) : txs (ws ++ [x]) = txs ws ++ [.str (txt x)] := by unfold txs; rw [List.map_append]; rfl
theorem txs_pls : ∀ ws : List (List Bool), D.pls (txs ws) = true
  | [] => rfl
  | x :: xs => txs_pls xs
theorem fy_0 : ¬ ("rows" : Str) = "room" := by decide +kernel
theorem fy_1 : (["rows"] : List Str).findIdx? (fun y => y == ("room" : Str)) = none := by decide +kernel
theorem fy_2 : (["rows", "room"] : List Str).findIdx? (fun y => y == ("worth" : Str)) = none := by decide +kernel
theorem fy_3 : (["rows", "room", "worth"] : List Str).findIdx? (fun y => y == ("held" : Str)) = none := by decide +kernel
theorem fy_4 : (["rows", "room", "worth", "held"] : List Str).findIdx? (fun y => y == ("leaves" : Str)) = none := by decide +kernel
theorem init_eq (n : Nat) (its : List Itm) (room : Int) : den (n + 1) "Search.__init__" [.ob "Search" [] [], .d (.lst (itsD its)), .d (.int room)] =
    .ok (.d .non) [some (seO its room 0 [] []), some (.d (.lst (itsD its))), some (.d (.int room))] := by
  refine eq_of_wp ?_
  rw [den_Search____init__]
  refine run_wp rfl ?_
  unfold b_Search____init__ seO
  simp -dsimp [List.replicate, fy_0, fy_1, fy_2, fy_3, fy_4]
theorem lk_leaves (a b c d e : D) : List.lookup ("leaves" : Str) [("rows", a), ("room", b), ("worth", c), ("held", d), ("leaves", e)] = some e := by
  have h1 : (("leaves" : Str) == "rows") = false := by decide +kernel
  have h2 : (("leaves" : Str) == "room") = false := by decide +kernel
  have h3 : (("leaves" : Str) == "worth") = false := by decide +kernel
  have h4 : (("leaves" : Str) == "held") = false := by decide +kernel
  simp only [List.lookup, h1, h2, h3, h4, beq_self_eq_true]
theorem s0_tx : ("0" : Str) = (⟨#[sg false]⟩ : Str) := tl_ext (by decide +kernel)
theorem s1_tx : ("1" : Str) = (⟨#[sg true]⟩ : Str) := tl_ext (by decide +kernel)
theorem top_nn (its : List Itm) (p q : Int) (i : Nat) : 0 ≤ top its p q i := by
  unfold top
  cases its.length - i with
  | zero => exact Int.le_refl _
  | succ f => exact Int.le_max_left _ _
theorem sumC_both (f g h : Nat → Int) (P Q R : Nat → Bool) : ∀ (c k : Nat), (∀ j, k ≤ j → j < k + c → (if P j then f j else 0) = (if Q j then g j else 0) + (if R j then h j else 0)) → sumC f P k c = sumC g Q k c + sumC h R k c
  | 0, _, _ => rfl
  | c + 1, k, e => by
    show (if P k then f k else 0) + sumC f P (k + 1) c = (if Q k then g k else 0) + sumC g Q (k + 1) c + ((if R k then h k else 0) + sumC h R (k + 1) c)
    rw [e k (Nat.le_refl _) (by omega), sumC_both f g h P Q R c (k + 1) fun j h1 h2 => e j (by omega) (by omega)]
    omega
theorem sumC_le (f g : Nat → Int) (P Q : Nat → Bool) : ∀ (c k : Nat), (∀ j, k ≤ j → j < k + c → (if P j then f j else 0) ≤ (if Q j then g j else 0)) → sumC f P k c ≤ sumC g Q k c
  | 0, _, _ => Int.le_refl _
  | c + 1, k, e => by
    show (if P k then f k else 0) + sumC f P (k + 1) c ≤ (if Q k then g k else 0) + sumC g Q (k + 1) c
    have h1 := e k (Nat.le_refl _) (by omega)
    have h2 := sumC_le f g P Q c (k + 1) fun j h1 h2 => e j (by omega) (by omega)
    omega
/-- takings: what goes together -/
structure Cl (its : List Itm) (k : Nat) (t : Nat → Bool) : Prop where
  out : ∀ j, k ≤ j → t j = false
  up : ∀ j, t j = true → ∀ a, (ix its j).ab = some a → t a = true
noncomputable def rk (its : List Itm) (t : Nat → Bool) (k i : Nat) : Bool := t i && match (ix its i).ab with
  | none => true
  | some a => decide (a < k)
theorem tk_le (its : List Itm) (hi : ItsOk its) (p q : Int) (t : Nat → Bool) (ht : Cl its its.length t) : ∀ (c k : Nat), k + c = its.length → sumC (val its p q) t k c ≤ sumC (top its p q) (rk its t k) k c
  | 0, _, _ => Int.le_refl _
  | c + 1, k, e => by
    have ih := tk_le its hi p q t ht c (k + 1) (by omega)
    have kl : k < its.length := by omega
    show (if t k then val its p q k else 0) + sumC (val its p q) t (k + 1) c ≤ (if rk its t k k then top its p q k else 0) + sumC (top its p q) (rk its t k) (k + 1) c
    have sp : sumC (top its p q) (rk its t (k + 1)) (k + 1) c = sumC (top its p q) (rk its t k) (k + 1) c + sumC (top its p q) (fun j => t j && ((ix its j).ab == some k)) (k + 1) c := by
      refine sumC_both _ _ _ _ _ _ c (k + 1) fun j h1 h2 => ?_
      unfold rk
      cases t j with
      | false => simp
      | true =>
        cases (ix its j).ab with
        | none => simp
        | some a =>
          by_cases e1 : a = k
          · subst e1; simp
          · by_cases e2 : a < k
            · have : a < k + 1 := by omega
              simp [e1, e2, this]
            · have : ¬ a < k + 1 := by omega
              simp [e1, e2, this]
    have rkk : rk its t k k = t k := by
      unfold rk
      cases h : (ix its k).ab with
      | none => simp
      | some a =>
        have := hi.ab k a kl h
        simp [this]
    rw [rkk]
    cases htk : t k with
    | true =>
      have h1 : sumC (top its p q) (fun j => t j && ((ix its j).ab == some k)) (k + 1) c ≤ sumC (top its p q) (fun j => (ix its j).ab == some k) (k + 1) c := sumC_le _ _ _ _ c (k + 1) fun j _ _ => by
        have := top_nn its p q j
        cases t j with
        | false => simp; split <;> omega
        | true => simp
      have h2 := top_eq its p q k kl
      rw [show its.length - (k + 1) = c by omega] at h2
      have h3 : val its p q k + sumC (top its p q) (fun j => (ix its j).ab == some k) (k + 1) c ≤ top its p q k := by rw [h2]; exact Int.le_max_right _ _
      rw [if_pos rfl, if_pos rfl]
      omega
    | false =>
      have z : sumC (top its p q) (fun j => t j && ((ix its j).ab == some k)) (k + 1) c = 0 := sumC_none _ _ c (k + 1) fun j _ _ => by
        cases h : t j with
        | false => rfl
        | true =>
          have : (ix its j).ab ≠ some k := fun e => by
            have := ht.up j h k e
            rw [htk] at this
            cases this
          simpa using this
      simp
      omega
theorem bnd_ge (its : List Itm) (dec : List Bool) (room p q : Int) (hi : ItsOk its) (hd : dec.length ≤ its.length) (hr : Rat2 p q) (t : Nat → Bool) (ht : Cl its its.length t)
    (hw : sumC (fun i => (ix its i).we) t 0 its.length ≤ room) (ha : ∀ k, k < dec.length → tk dec k = t k) : sumC (fun i => (ix its i).wo) t 0 its.length * q ≤ bnd0 its dec room p q := by
  have h1 := sumC_val its p q t its.length 0
  have h2 := Int.mul_le_mul_of_nonneg_left hw hr.p0
  unfold bnd0
  obtain ⟨r, hr⟩ : ∃ r, its.length = dec.length + r := ⟨its.length - dec.length, by omega⟩
  have h3 : sumC (val its p q) t 0 its.length = sumC (val its p q) t 0 dec.length + sumC (val its p q) t (0 + dec.length) r := by rw [hr, sumC_split]
  have h4 : sumC (val its p q) t 0 dec.length = sumC (val its p q) (tk dec) 0 dec.length := sumC_congr _ _ fun j _ h => ⟨(ha j (by omega)).symm, fun _ => rfl⟩
  have h5 := tk_le its hi p q t ht r (0 + dec.length) (by omega)
  have h6 : sumC (fun i => if fr its dec i then top its p q i else 0) (root its dec) 0 its.length = sumC (fun i => if fr its dec i then top its p q i else 0) (root its dec) 0 dec.length + sumC (fun i => if fr its dec i then top its p q i else 0) (root its dec) (0 + dec.length) r := by rw [hr, sumC_split]
  have h7 := sumC_zero (fun i => if fr its dec i then top its p q i else 0) (root its dec) dec.length 0 fun j _ h => by
    show (if fr its dec j then top its p q j else 0) = 0
    rw [fr_eq its dec j (by omega) (fun a ha => hi.ab j a (by omega) ha), if_pos (show j < dec.length by omega)]
    rfl
  have h8 : sumC (top its p q) (rk its t (0 + dec.length)) (0 + dec.length) r ≤ sumC (fun i => if fr its dec i then top its p q i else 0) (root its dec) (0 + dec.length) r := sumC_le _ _ _ _ r _ fun j j1 j2 => by
    have tn := top_nn its p q j
    rw [fr_eq its dec j (by omega) (fun a ha => hi.ab j a (by omega) ha), if_neg (show ¬ j < dec.length by omega)]
    unfold rk root
    cases h : (ix its j).ab with
    | none =>
      cases t j <;> simp <;> omega
    | some a =>
      by_cases c : a < dec.length
      · cases htj : t j with
        | true =>
          have := ht.up j htj a h
          rw [← ha a c] at this
          simp [c, this]
        | false => simp [c]; split <;> omega
      · simp [c]
  rw [Int.mul_comm]
  omega
noncomputable def okS (its : List Itm) : List Nat → List Bool → Bool
  | [], _ => true
  | c :: cs, dec => if c = 48 then okS its cs (dec ++ [false]) else if c = 49 then mayB its dec && okS its cs (dec ++ [true]) else false
noncomputable def kyD : D → Key
  | .tup (.str x :: _) => .inr x
  | _ => .inr ""
noncomputable def unT (x : Str) : List Bool := (tl x).map fun c => decide (c = 49)
theorem unT_txt (d : List Bool) : unT (txt d) = d := by
  unfold unT
  rw [txt_tl, List.map_map]
  conv => rhs; rw [← List.map_id d]
  exact List.map_congr_left fun b _ => by cases b <;> rfl
-- what the leaves of a paper cover: trees of texts
/-- these texts, in order, part what goes on from x -/
inductive Cov (its : List Itm) : List Bool → List (List Bool) → Prop
  | leaf (x : List Bool) : Cov its x [x]
  | one (x : List Bool) (L : List (List Bool)) : x.length < its.length → mayB its x = false → Cov its (x ++ [false]) L → Cov its x L
  | two (x : List Bool) (L M : List (List Bool)) : x.length < its.length → mayB its x = true → Cov its (x ++ [true]) L → Cov its (x ++ [false]) M → Cov its x (L ++ M)
/-- the same of a stack, its top first -/
inductive CovS (its : List Itm) : List (List Bool) → List (List Bool) → Prop
  | nil : CovS its [] []
  | cons {x : List Bool} {L : List (List Bool)} {ws M : List (List Bool)} : Cov its x L → CovS its ws M → CovS its (x :: ws) (L ++ M)
theorem Cov.ne {its : List Itm} {x : List Bool} {L : List (List Bool)} (h : Cov its x L) : L ≠ [] := by
  induction h with
  | leaf x => intro h; cases h
  | one x L _ _ _ ih => exact ih
  | two x L M _ _ _ _ ih1 _ => intro h; exact ih1 (List.append_eq_nil_iff.mp h).1
/-- each taking agrees with one of the texts -/
theorem Cov.agree {its : List Itm} (hi : ItsOk its) {t : Nat → Bool} (ht : Cl its its.length t) {x : List Bool} {L : List (List Bool)} (h : Cov its x L) : (∀ k, k < x.length → tk x k = t k) → ∃ d ∈ L, ∀ k, k < d.length → tk d k = t k := by
  have ext : ∀ (x : List Bool) (b : Bool), (∀ k, k < x.length → tk x k = t k) → t x.length = b → ∀ k, k < (x ++ [b]).length → tk (x ++ [b]) k = t k := by
    intro x b hx hb k hk
    rw [List.length_append] at hk
    have hk : k < x.length + 1 := hk
    by_cases c : k < x.length
    · rw [tk_left _ _ _ c]; exact hx k c
    · have : k = x.length := by omega
      rw [tk_last _ _ _ this, this, hb]
  induction h with
  | leaf x => intro hx; exact ⟨x, List.mem_singleton.mpr rfl, hx⟩
  | one x L hl hm hc ih =>
    intro hx
    refine ih (ext x false hx ?_)
    cases e : t x.length with
    | false => rfl
    | true =>
      unfold mayB at hm
      cases ha : (ix its x.length).ab with
      | none => rw [ha] at hm; cases hm
      | some j =>
        rw [ha] at hm
        have := ht.up _ e j ha
        rw [← hx j (hi.ab _ j hl ha)] at this
        have hm : tk x j = false := hm
        rw [hm] at this
        cases this
  | two x L M hl hm hc1 hc2 ih1 ih2 =>
    intro hx
    cases e : t x.length with
    | true => obtain ⟨d, h1, h2⟩ := ih1 (ext x true hx e); exact ⟨d, List.mem_append_left _ h1, h2⟩
    | false => obtain ⟨d, h1, h2⟩ := ih2 (ext x false hx e); exact ⟨d, List.mem_append_right _ h1, h2⟩
/-- decided: with each the one above it -/
noncomputable def DcT (its : List Itm) (x : List Bool) : Prop := okS its (x.map sg) [] = true
theorem okS_snoc (its : List Itm) (b : Bool) : ∀ (d p : List Bool), okS its ((d ++ [b]).map sg) p = (okS its (d.map sg) p && (!b || mayB its (p ++ d)))
  | [], p => by
    cases b with
    | false => simp [okS, sg]
    | true => simp [okS, sg]
  | a :: d, p => by
    have ih := okS_snoc its b d (p ++ [a])
    rw [List.append_assoc] at ih
    cases a with
    | false =>
      show okS its ((d ++ [b]).map sg) (p ++ [false]) = (okS its (d.map sg) (p ++ [false]) && _)
      exact ih
    | true =>
      show (mayB its p && okS its ((d ++ [b]).map sg) (p ++ [true])) = ((mayB its p && okS its (d.map sg) (p ++ [true])) && _)
      rw [ih, Bool.and_assoc]
      rfl
theorem dcT_snoc (its : List Itm) (x : List Bool) (b : Bool) : DcT its (x ++ [b]) ↔ DcT its x ∧ (b = true → mayB its x = true) := by
  unfold DcT
  rw [okS_snoc, Bool.and_eq_true]
  cases b <;> simp
theorem snoc_ind {P : List Bool → Prop} (h0 : P []) (h : ∀ x b, P x → P (x ++ [b])) : ∀ (n : Nat) (x : List Bool), x.length = n → P x
  | 0, x, e => by rw [List.length_eq_zero_iff.mp e]; exact h0
  | n + 1, x, e => by
    rcases List.eq_nil_or_concat x with rfl | ⟨y, b, rfl⟩
    · cases e
    · rw [List.concat_eq_append] at e ⊢
      rw [List.length_append] at e
      exact h y b (snoc_ind h0 h n y (by have : y.length + 1 = n + 1 := e; omega))
theorem dcT_up (its : List Itm) (hi : ItsOk its) (x : List Bool) : x.length ≤ its.length → DcT its x → ∀ j, tk x j = true → ∀ a, (ix its j).ab = some a → tk x a = true := by
  refine snoc_ind (P := fun x => x.length ≤ its.length → DcT its x → ∀ j, tk x j = true → ∀ a, (ix its j).ab = some a → tk x a = true) (fun _ _ j h => by cases h) (fun x b ih hl hd j hj a ha => ?_) x.length x rfl
  rw [List.length_append] at hl
  have hl : x.length + 1 ≤ its.length := hl
  obtain ⟨h1, h2⟩ := (dcT_snoc its x b).mp hd
  by_cases c : j < x.length
  · rw [tk_left _ _ _ c] at hj
    have aj := hi.ab j a (by omega) ha
    rw [tk_left _ _ _ (by omega)]
    exact ih (by omega) h1 j hj a ha
  · by_cases c2 : j = x.length
    · rw [tk_last _ _ _ c2] at hj
      have m := h2 hj
      subst c2
      have aj := hi.ab x.length a (by omega) ha
      unfold mayB at m
      rw [ha] at m
      rw [tk_left _ _ _ aj]
      exact m
    · exfalso
      have : tk (x ++ [b]) j = false := by
        unfold tk
        rw [List.getD_eq_getElem?_getD, List.getElem?_eq_none (by rw [List.length_append]; show x.length + 1 ≤ j; omega)]
        rfl
      rw [this] at hj
      cases hj
theorem dkGet_some (a : List (Key × D)) (k : Key) : (dkGet a k).isSome = true ↔ k ∈ a.map (·.1) := by
  unfold dkGet
  rw [Option.isSome_map, List.find?_isSome, List.mem_map]
  constructor
  · rintro ⟨p, h1, h2⟩; exact ⟨p, h1, by simpa using h2⟩
  · rintro ⟨p, h1, h2⟩; exact ⟨p, h1, by simpa using h2⟩
/-- a leaf that closes -/
noncomputable def LfC (its : List Itm) (room w : Int) (d : D) : Prop := ∃ (x : List Bool) (p q : Int), d = .tup [.str (txt x), .int p, .int q] ∧ x.length ≤ its.length ∧ DcT its x ∧ Rat2 p q ∧ bnd0 its x room p q < q * (w + 1)
noncomputable def txD : D → List Bool
  | .tup (.str x :: _) => unT x
  | _ => []
/-- a paper: closing leaves whose texts part all -/
structure Pap (its : List Itm) (room w : Int) (L : List D) : Prop where
  lf : ∀ d ∈ L, LfC its room w d
  co : ∃ lt, Cov its [] lt ∧ (L.map txD).Perm lt
theorem kyD_tx {d : D} {x : List Bool} {p q : D} (e : d = .tup [.str (txt x), p, q]) : kyD d = .inr (txt x) ∧ txD d = x := by
  subst e
  exact ⟨rfl, unT_txt x⟩
theorem Pap.perm {its : List Itm} {room w : Int} {L L' : List D} (h : Pap its room w L) (p : L'.Perm L) : Pap its room w L' :=
  ⟨fun d hd => h.lf d (p.mem_iff.mp hd), let ⟨lt, hc, hp⟩ := h.co; ⟨lt, hc, (p.map txD).trans hp⟩⟩
-- the search told exactly enough: Search.note, try_rate, is_closed
/-- what the search holds: a taking that fits, worth so much -/
noncomputable def HdT (its : List Itm) (room w : Int) (hd : List D) : Prop := ∃ t : Nat → Bool, Cl its its.length t ∧ weS its t ≤ room ∧ woS its t = w ∧ hd = natD (tkL t its.length)
theorem hdT_zero (its : List Itm) (room : Int) (h : 0 ≤ room) : HdT its room 0 [] := by
  have e1 : weS its (fun _ => false) = 0 := sumC_none _ _ _ _ fun _ _ _ => rfl
  have e2 : woS its (fun _ => false) = 0 := sumC_none _ _ _ _ fun _ _ _ => rfl
  have e3 : tkL (fun _ => false) its.length = [] := by unfold tkL; exact List.filter_eq_nil_iff.mpr fun _ _ h => by cases h
  exact ⟨fun _ => false, ⟨fun _ _ => rfl, fun _ h => by cases h⟩, by rw [e1]; exact h, e2, by rw [e3]; rfl⟩
theorem tS_cl (its : List Itm) (hi : ItsOk its) (dec : List Bool) (p q : Int) (hl : dec.length ≤ its.length) (hd : DcT its dec) : Cl its its.length (tS its dec p q) := by
  have out : ∀ j, its.length ≤ j → tS its dec p q j = false := fun j hj => by
    unfold tS tk
    rw [List.getD_eq_getElem?_getD, List.getElem?_eq_none (by rw [tkS_len]; exact hj)]
    rfl
  refine ⟨out, fun j hj a ha => ?_⟩
  by_cases c : j < its.length
  · have aj := hi.ab j a c ha
    have ej := tS_eq its dec p q j c fun i => hi.ab j i c
    rw [hj] at ej
    by_cases c2 : j < dec.length
    · rw [if_pos c2] at ej
      have := dcT_up its hi dec hl hd j ej.symm a ha
      rw [tS_eq its dec p q a (by omega) fun i => hi.ab a i (by omega), if_pos (by omega)]
      exact this
    · rw [if_neg c2, ha] at ej
      have ej : true = (fr its dec j && (decide (0 < top its p q j) && tS its dec p q a)) := ej
      have := ej.symm
      rw [Bool.and_eq_true, Bool.and_eq_true] at this
      exact this.2.2
  · rw [out j (by omega)] at hj
    cases hj
theorem try_eqE (n : Nat) (its : List Itm) (dec : List Bool) (room w p q : Int) (hd : List D) (lv : List D) (hi : ItsOk its) (hdl : dec.length ≤ its.length) (hr : Rat2 p q) (h0 : 0 ≤ room ∧ room ≤ 1000) (hlv : lv.length < 16777216) :
    den (n + 5) "Search.try_rate" [seO its room w hd lv, .d (.str (txt dec)), .d (.int p), .d (.int q)] =
      .ok (.d (.tup [.tup [.int (woS its (tS its dec p q)), .int (room - weS its (tS its dec p q))], .bl (decide (bnd0 its dec room p q < q * (nw room w (woS its (tS its dec p q)) (room - weS its (tS its dec p q)) + 1)))]))
        [some (seO its room (nw room w (woS its (tS its dec p q)) (room - weS its (tS its dec p q))) (if 0 ≤ room - weS its (tS its dec p q) ∧ w < woS its (tS its dec p q) then natD (tkL (tS its dec p q) its.length) else hd) (if bnd0 its dec room p q < q * (nw room w (woS its (tS its dec p q)) (room - weS its (tS its dec p q)) + 1) then lv ++ [.tup [.str (txt dec), .int p, .int q]] else lv)), some (.d (.str (txt dec))), some (.d (.int p)), some (.d (.int q))] := by
  obtain ⟨t, ht⟩ : ∃ t, t = tS its dec p q := ⟨_, rfl⟩
  have ta := taking_eq (n + 1) its dec p q hi hdl hr
  rw [← ht] at ta ⊢
  obtain ⟨T, hT⟩ : ∃ T : List D, T = natD (tkL t its.length) := ⟨_, rfl⟩
  have no := note_eq (n + 2) its t room w hd lv hi T (by rw [hT])
  rw [← hT] at ta ⊢
  obtain ⟨x, hx⟩ : ∃ x, x = woS its t := ⟨_, rfl⟩
  obtain ⟨y, hy⟩ : ∃ y, y = room - weS its t := ⟨_, rfl⟩
  rw [← hx, ← hy] at no ⊢
  obtain ⟨hd', hd2⟩ : ∃ h, h = (if 0 ≤ y ∧ w < x then T else hd) := ⟨_, rfl⟩
  rw [← hd2] at no ⊢
  rw [show (if 0 ≤ y ∧ w < x then x else w) = nw room w x y from rfl] at no
  obtain ⟨w', hw'⟩ : ∃ v, v = nw room w x y := ⟨_, rfl⟩
  rw [← hw'] at no ⊢
  obtain ⟨b, hb⟩ : ∃ b, b = bnd0 its dec room p q := ⟨_, rfl⟩
  have be := bound_eq n its dec room p q hi hdl hr h0
  rw [← hb] at be ⊢
  have mo : mulOk q (w' + 1) = true := mulOk_l (by have := hr.q0; have := hr.q1; omega)
  have cl : den (n + 4) "closes" [.d (.lst (itsD its)), .d (.int room), .d (.int w'), .d (.tup [.str (txt dec), .int p, .int q])] = .ok (.d (.bl (decide (b < q * (w' + 1))))) [some (.d (.lst (itsD its))), some (.d (.int room)), some (.d (.int w')), some (.d (.tup [.str (txt dec), .int p, .int q]))] := by
    refine eq_of_wp ?_
    rw [den_closes]
    refine run_wp rfl ?_
    unfold b_closes
    simp -dsimp [List.replicate, be, mo]
  refine eq_of_wp ?_
  rw [den_Search__try_rate]
  refine run_wp rfl ?_
  unfold b_Search__try_rate
  unfold seO at no ⊢
  by_cases c : b < q * (w' + 1)
  · rw [decide_eq_true c] at cl
    simp -dsimp [List.replicate, ta, no, cl, c, hlv, nf_note, fx_rows, fx_room, fx_worth, fx_held, fx_leaves]
  · rw [decide_eq_false c] at cl
    simp -dsimp [List.replicate, ta, no, cl, c, nf_note, fx_rows, fx_room, fx_worth, fx_held, fx_leaves]
structure TryG (its : List Itm) (dec : List Bool) (room p q w : Int) (hd : List D) (lv : List D) (x y : Int) (b : Bool) (w' : Int) (hd' : List D) (lv' : List D) : Prop where
  x0 : 0 ≤ x ∧ x ≤ 10000000000
  y0 : room - 400 ≤ y ∧ y ≤ room + 400
  wm : w ≤ w'
  hh : HdT its room w hd → HdT its room w' hd'
  lv : (b = true ∧ bnd0 its dec room p q < q * (w' + 1) ∧ lv' = lv ++ [.tup [.str (txt dec), .int p, .int q]]) ∨ (b = false ∧ lv' = lv)
  full : dec.length = its.length → y = room - weS its (tk dec) ∧ (p = 0 ∧ q = 1 ∧ 0 ≤ y → b = true) ∧ (p = 10000000001 ∧ q = 1 ∧ y < 0 ∧ 0 ≤ w → b = true)
theorem try_exE (n : Nat) (its : List Itm) (dec : List Bool) (room w p q : Int) (hd : List D) (lv : List D) (hi : ItsOk its) (hdl : dec.length ≤ its.length) (hdc : DcT its dec) (hr : Rat2 p q) (h0 : 0 ≤ room ∧ room ≤ 1000) (hlv : lv.length < 16777216) :
    ∃ (x y : Int) (b : Bool) (w' : Int) (hd' : List D) (lv' : List D), den (n + 5) "Search.try_rate" [seO its room w hd lv, .d (.str (txt dec)), .d (.int p), .d (.int q)] =
      .ok (.d (.tup [.tup [.int x, .int y], .bl b])) [some (seO its room w' hd' lv'), some (.d (.str (txt dec))), some (.d (.int p)), some (.d (.int q))] ∧ TryG its dec room p q w hd lv x y b w' hd' lv' := by
  have e := try_eqE n its dec room w p q hd lv hi hdl hr h0 hlv
  have hx := woS_bd its hi (tS its dec p q)
  have hy := weS_bd its hi (tS its dec p q)
  refine ⟨_, _, _, _, _, _, e, ⟨hx, by omega, ?_, ?_, ?_, ?_⟩⟩
  · unfold nw
    split <;> omega
  · intro hh
    unfold nw
    by_cases c : 0 ≤ room - weS its (tS its dec p q) ∧ w < woS its (tS its dec p q)
    · rw [if_pos c, if_pos c]
      exact ⟨tS its dec p q, tS_cl its hi dec p q hdl hdc, by omega, rfl, rfl⟩
    · rw [if_neg c, if_neg c]
      exact hh
  · by_cases c : bnd0 its dec room p q < q * (nw room w (woS its (tS its dec p q)) (room - weS its (tS its dec p q)) + 1)
    · exact .inl ⟨decide_eq_true c, c, if_pos c⟩
    · exact .inr ⟨decide_eq_false c, if_neg c⟩
  · intro hf
    have te := tS_full its dec p q hi hf
    have e1 : woS its (tS its dec p q) = woS its (tk dec) := sumC_congr _ _ fun j _ h => ⟨te j (by omega), fun _ => rfl⟩
    have e2 : weS its (tS its dec p q) = weS its (tk dec) := sumC_congr _ _ fun j _ h => ⟨te j (by omega), fun _ => rfl⟩
    rw [bnd0_full its dec room p q hi hf, e1, e2]
    rw [e1] at hx
    refine ⟨rfl, ?_, ?_⟩
    · rintro ⟨rfl, rfl, hy0⟩
      refine decide_eq_true ?_
      rw [Int.zero_mul, Int.one_mul, Int.one_mul]
      unfold nw
      split
      · omega
      · rename_i c
        have : ¬ w < woS its (tk dec) := fun z => c ⟨hy0, z⟩
        omega
    · rintro ⟨rfl, rfl, hy0, w0⟩
      refine decide_eq_true ?_
      rw [Int.one_mul, Int.one_mul]
      have : 0 ≤ nw room w (woS its (tk dec)) (room - weS its (tk dec)) := by
        unfold nw
        split
        · exact hx.1
        · exact w0
      omega
/-- what is_closed leaves: no leaf, or one that closes -/
noncomputable def LvC (its : List Itm) (dec : List Bool) (room w : Int) (lv : List D) (b : Bool) (lv' : List D) : Prop :=
  b = false ∧ lv' = lv ∨ b = true ∧ ∃ p q, Rat2 p q ∧ bnd0 its dec room p q < q * (w + 1) ∧ lv' = lv ++ [.tup [.str (txt dec), .int p, .int q]]
theorem closed_wpE (n : Nat) (its : List Itm) (dec : List Bool) (room w : Int) (hd : List D) (lv : List D) (hi : ItsOk its) (hdl : dec.length ≤ its.length) (hdc : DcT its dec) (h0 : 0 ≤ room ∧ room ≤ 1000) (hlv : lv.length < 16777216) (w0 : 0 ≤ w) (hh : HdT its room w hd) {Q : M → List (Option M) → Prop}
    (h : ∀ (b : Bool) (w' : Int) (hd' : List D) (lv' : List D), w ≤ w' → HdT its room w' hd' → LvC its dec room w' lv b lv' → (dec.length = its.length → b = true) →
      Q (.d (.bl b)) [some (seO its room w' hd' lv'), some (.d (.str (txt dec)))]) :
    (den (n + 6) "Search.is_closed" [seO its room w hd lv, .d (.str (txt dec))]).wp Q := by
  rw [den_Search__is_closed]
  refine run_wp rfl ?_
  unfold b_Search__is_closed
  have r1 : Rat2 0 1 := ⟨by decide, by decide, by decide, by decide⟩
  have r2 : Rat2 10000000001 1 := ⟨by decide, by decide, by decide, by decide⟩
  obtain ⟨x1, y1, b1, w1, hd1, lv1, e1, t1⟩ := try_exE n its dec room w 0 1 hd lv hi hdl hdc r1 h0 hlv
  have w10 := t1.wm
  have hh1 := t1.hh hh
  unfold seO at e1 ⊢
  rcases t1.lv with ⟨rfl, c1, rfl⟩ | ⟨rfl, rfl⟩
  · simp -dsimp [List.replicate, e1, nf_try_rate]
    exact h true w1 hd1 _ w10 hh1 (.inr ⟨rfl, 0, 1, r1, c1, rfl⟩) (fun _ => rfl)
  obtain ⟨x2, y2, b2, w2, hd2, lv2, e2, t2⟩ := try_exE n its dec room w1 10000000001 1 hd1 lv1 hi hdl hdc r2 h0 hlv
  have w20 := t2.wm
  have hh2 := t2.hh hh1
  unfold seO at e2
  simp -dsimp [List.replicate, e1, nf_try_rate, e2, c_STEEP, c_MOST_TURNS]
  have full2 : dec.length = its.length → b2 = true := by
    intro hf
    have f1 := t1.full hf
    have f2 := t2.full hf
    by_cases c : 0 ≤ y1
    · have := f1.2.1 ⟨rfl, rfl, c⟩
      cases this
    · exact f2.2.2 ⟨rfl, rfl, by omega, by omega⟩
  obtain ⟨I, hI⟩ : ∃ I : Nat → SS → Prop, I = fun (k : Nat) (S : SS) => ∃ (w3 : Int) (hd : List D) (lv' : List D) (b : Bool) (lx ly hx hy : Int) (s2 s6 s7 s8 : Option M), w ≤ w3 ∧ HdT its room w3 hd ∧ LvC its dec room w3 lv1 b lv' ∧ (dec.length = its.length → b = true) ∧
    (0 ≤ lx ∧ lx ≤ 10000000000) ∧ (0 ≤ hx ∧ hx ≤ 10000000000) ∧ (room - 400 ≤ ly ∧ ly ≤ room + 400) ∧ (room - 400 ≤ hy ∧ hy ≤ room + 400) ∧
    S = [some (seO its room w3 hd lv'), some (.d (.str (txt dec))), s2, some (.d (.tup [.int lx, .int ly])), some (.d (.bl b)), some (.d (.tup [.int hx, .int hy])), s6, s7, s8] := ⟨_, rfl⟩
  refine wp_range I _ _ 0 _ (by
    rw [hI]
    refine ⟨w2, hd2, lv2, b2, x1, y1, x2, y2, _, _, _, _, by omega, hh2, ?_, full2, t1.x0, t2.x0, t1.y0, t2.y0, rfl⟩
    rcases t2.lv with ⟨rfl, c2, rfl⟩ | ⟨rfl, rfl⟩
    · exact .inr ⟨rfl, _, _, r2, c2, rfl⟩
    · exact .inl ⟨rfl, rfl⟩) ?_ ?_
  · intro k _ hk S hS
    rw [hI] at hS
    obtain ⟨w3, hd, lv', b, lx, ly, hx, hy, s2, s6, s7, s8, w30, hh3, hb, hfull, blx, bhx, bly, bhy, rfl⟩ := hS
    rw [show (0 : Int) + ((k - 0 : Nat) : Int) = (k : Int) by omega]
    refine ⟨[some (seO its room w3 hd lv'), some (.d (.str (txt dec))), some (.d (.int (k : Int))), some (.d (.tup [.int lx, .int ly])), some (.d (.bl b)), some (.d (.tup [.int hx, .int hy])), s6, s7, s8], rfl, ?_⟩
    have hr := h b w3 hd lv' w30 hh3 hb hfull
    unfold seO at hr ⊢
    rcases hb with ⟨rfl, rfl⟩ | ⟨rfl, p, q, hpq, hpc, rfl⟩
    · by_cases c1 : lx ≤ hx
      · simp -dsimp [c1]
        exact hr
      · by_cases c2 : hy ≤ ly
        · simp -dsimp [c1, c2]
          exact hr
        · obtain ⟨p, hp⟩ : ∃ p : Int, p = lx - hx := ⟨_, rfl⟩
          obtain ⟨q, hq⟩ : ∃ q : Int, q = hy - ly := ⟨_, rfl⟩
          have r3 : Rat2 p q := ⟨by omega, by omega, by omega, by omega⟩
          obtain ⟨x3, y3, b3, w4, hd3, lv3, e3, t3⟩ := try_exE n its dec room w3 p q hd lv' hi hdl hdc r3 h0 hlv
          have w40 := t3.wm
          have hh4 := t3.hh hh3
          have nf : ¬ dec.length = its.length := fun z => by cases hfull z
          have mq : ∀ z, mulOk q z = true := fun z => mulOk_l (by omega)
          have mp : ∀ z, mulOk p z = true := fun z => mulOk_l (by omega)
          unfold seO at e3
          rcases t3.lv with ⟨rfl, c9, rfl⟩ | ⟨rfl, rfl⟩
          · simp -dsimp [c1, c2, ← hp, ← hq, nf_try_rate, e3, mq, mp]
            have := h true w4 hd3 _ (by omega) hh4 (.inr ⟨rfl, p, q, r3, c9, rfl⟩) (fun _ => rfl)
            unfold seO at this
            exact this
          · by_cases c3 : q * x3 + p * y3 ≤ q * lx + p * ly
            · simp -dsimp [c1, c2, ← hp, ← hq, nf_try_rate, e3, mq, mp, c3]
              have := h false w4 hd3 _ (by omega) hh4 (.inl ⟨rfl, rfl⟩) (fun z => (nf z).elim)
              unfold seO at this
              exact this
            · by_cases c4 : y3 < 0
              · simp -dsimp [c1, c2, ← hp, ← hq, nf_try_rate, e3, mq, mp, c3, c4]
                rw [hI]
                exact ⟨w4, hd3, _, false, x3, y3, hx, hy, _, _, _, _, by omega, hh4, .inl ⟨rfl, rfl⟩, (fun z => (nf z).elim), t3.x0, bhx, t3.y0, bhy, rfl⟩
              · simp -dsimp [c1, c2, ← hp, ← hq, nf_try_rate, e3, mq, mp, c3, c4]
                rw [hI]
                exact ⟨w4, hd3, _, false, lx, ly, x3, y3, _, _, _, _, by omega, hh4, .inl ⟨rfl, rfl⟩, (fun z => (nf z).elim), blx, t3.x0, bly, t3.y0, rfl⟩
    · simp -dsimp
      exact hr
  · intro S hS
    rw [hI] at hS
    obtain ⟨w3, hd, lv', b, lx, ly, hx, hy, s2, s6, s7, s8, w30, hh3, hb, hfull, blx, bhx, bly, bhy, rfl⟩ := hS
    simp -dsimp
    exact h b w3 hd lv' w30 hh3 hb hfull
-- best told: its worth, what it holds, its paper
theorem covS_snoc {its : List Itm} {ws : List (List Bool)} {x : List Bool} {L N : List (List Bool)} (h : Cov its x L) (hs : CovS its ws.reverse N) : CovS its (ws ++ [x]).reverse (L ++ N) := by
  rw [List.reverse_append]
  exact .cons h hs
theorem lfC_mono {its : List Itm} {room w w' : Int} {d : D} (h : LfC its room w d) (hw : w ≤ w') : LfC its room w' d := by
  obtain ⟨x, p, q, e, h1, h2, h3, h4⟩ := h
  refine ⟨x, p, q, e, h1, h2, h3, Int.lt_of_lt_of_le h4 ?_⟩
  exact Int.mul_le_mul_of_nonneg_left (by omega) (by have := h3.q0; omega)
theorem lfC_T {its : List Itm} {room w : Int} {d : D} (h : LfC its room w d) : LfT d := by
  obtain ⟨x, p, q, e, _⟩ := h
  exact ⟨_, _, _, e⟩
/-- what best tells -/
structure BestT (its : List Itm) (room w : Int) (hd : List D) (P : List D) : Prop where
  w0 : 0 ≤ w
  hd : HdT its room w hd
  pa : Pap its room w P
  ln : P.length ≤ 2047
theorem best_is (n : Nat) (its : List Itm) (room : Int) (hi : ItsOk its) (h0 : 0 ≤ room ∧ room ≤ 1000) (hg : ∀ k (hk : k < (itsD its).length), gdI (n + 3) k (itsD its)[k]) :
    ∃ w hd P, BestT its room w hd P ∧ den (n + 8) "best" [.d (.lst (itsD its)), .d (.int room)] = .ok (.box [.d (.int w), .lst hd, .lst P]) [some (.d (.lst (itsD its))), some (.d (.int room))] := by
  have key : (den (n + 8) "best" [.d (.lst (itsD its)), .d (.int room)]).wp (fun m T => (∃ w hd P, BestT its room w hd P ∧ m = .box [.d (.int w), .lst hd, .lst P]) ∧ T = [some (.d (.lst (itsD its))), some (.d (.int room))]) := by
    have n10 := hi.n10
    have lk := look_ok (n + 3) (itsD its) (by rw [List.length_map]; exact n10) hg
    have ie := init_eq (n + 5) its room
    have ds : den (n + 7) "Search" = den (n + 6) "Search.__init__" := den_Search (n + 6)
    rw [den_best]
    refine run_wp rfl ?_
    unfold b_best
    unfold seO at ie
    simp -dsimp [List.replicate, lk, ds, ie]
    obtain ⟨I, hI⟩ : ∃ I : Nat → SS → Prop, I = fun (m : Nat) (S : SS) => ∃ (ws : List (List Bool)) (w : Int) (hd : List D) (lv : List D) (s4 : Option M), (∀ t ∈ ws, t.length ≤ its.length ∧ DcT its t) ∧ mu its.length ws = m ∧ lv.length + m ≤ 2047 ∧ 0 ≤ w ∧ HdT its room w hd ∧ (∀ d ∈ lv, LfC its room w d) ∧
      (∀ N, CovS its ws.reverse N → Cov its [] (lv.map txD ++ N)) ∧
      S = [some (.d (.lst (itsD its))), some (.d (.int room)), some (seO its room w hd lv), some (.lst (txs ws)), s4] := ⟨_, rfl⟩
    refine wp_while I ?_ (2 ^ (its.length + 1) - 1) _ (by
      rw [hI]
      have p : 2 ^ (its.length + 1) ≤ 2 ^ 11 := Nat.pow_le_pow_right (by decide) (by omega)
      refine ⟨[[]], 0, [], [], none, fun t ht => ?_, ?_, ?_, Int.le_refl _, hdT_zero its room h0.1, (fun d hd => by cases hd), fun N hN => ?_, rfl⟩
      · rw [List.mem_singleton.mp ht]; exact ⟨Nat.zero_le _, rfl⟩
      · unfold mu; simp
      · show 0 + _ ≤ 2047
        have : (2 : Nat) ^ 11 = 2048 := by decide
        omega
      · cases hN with
        | cons h1 h2 =>
          cases h2
          rw [List.append_nil]
          exact h1)
    intro m S hS
    rw [hI] at hS
    obtain ⟨ws, w, hd, lv, s4, hw, hm, hlv, w0, hhd, hlf, hcov, rfl⟩ := hS
    rcases List.eq_nil_or_concat ws with rfl | ⟨ws, x, rfl⟩
    · have so := lf_sort lv (fun d hd => lfC_T (hlf d hd)) (by omega)
      have hc := hcov [] .nil
      rw [List.append_nil] at hc
      have pm : (lv.mergeSort leD').Perm lv := List.mergeSort_perm lv leD'
      have hp : Pap its room w lv := ⟨hlf, _, hc, .refl _⟩
      unfold seO
      simp -dsimp [txs, ne_nl, so, lk_leaves, fx_worth, fx_held, fx_leaves]
      refine ⟨w, hd, lv.mergeSort leD', ⟨w0, hhd, hp.perm pm, ?_⟩, rfl, rfl, rfl⟩
      rw [pm.length_eq]
      omega
    · rw [List.concat_eq_append] at hw hm hcov ⊢
      obtain ⟨hx, hdx⟩ := hw x (by simp)
      rw [mu_snoc] at hm
      rw [txs_snoc]
      obtain ⟨L, hL⟩ : ∃ L, L = txs ws ++ [.str (txt x)] := ⟨_, rfl⟩
      rw [← hL]
      have gl : L.getLast? = some (.str (txt x)) := by rw [hL, List.getLast?_concat]
      have dl : L.dropLast = txs ws := by rw [hL, List.dropLast_concat]
      have pl : D.pls L = true := by
        rw [hL, ← txs_snoc]
        exact txs_pls _
      have eb : D.eqbs L [] = false := by
        rw [hL]
        cases txs ws <;> rfl
      have cw := fun Q => closed_wpE (n + 1) its x room w hd lv hi hx hdx h0 (by omega) w0 hhd (Q := Q)
      unfold seO at cw ⊢
      simp -dsimp [pl, eb, gl, dl, nf_is_closed]
      refine cw _ fun b w' hd' lv' w'0 hhd' hb hfull => ?_
      have hlf' : ∀ d ∈ lv, LfC its room w' d := fun d hd => lfC_mono (hlf d hd) w'0
      have pw : 2 ≤ 2 ^ (its.length + 1 - x.length) := by
        have := Nat.pow_le_pow_right (n := 2) (by decide) (show 1 ≤ its.length + 1 - x.length by omega)
        simpa using this
      have hp1 : x.length < its.length → 2 ^ (its.length + 1 - x.length) = 2 ^ (its.length - x.length) + 2 ^ (its.length - x.length) := fun h => by
        rw [show its.length + 1 - x.length = (its.length - x.length) + 1 by omega, Nat.pow_succ]; omega
      have pw2 : 1 ≤ 2 ^ (its.length - x.length) := Nat.one_le_two_pow
      have lap : (txt x).length + ("0" : Str).length ≤ 16777216 := by rw [txt_len, show ("0" : Str).length = 1 from rfl]; omega
      have lap1 : (txt x).length + ("1" : Str).length ≤ 16777216 := by rw [txt_len, show ("1" : Str).length = 1 from rfl]; omega
      have a0 : txt x ++ ("0" : Str) = txt (x ++ [false]) := by rw [s0_tx, txt_snoc]
      have a1 : txt x ++ ("1" : Str) = txt (x ++ [true]) := by rw [s1_tx, txt_snoc]
      rcases hb with ⟨rfl, rfl⟩ | ⟨rfl, p, q, hpq, hpc, rfl⟩
      · have hx2 : x.length < its.length := by
          rcases Nat.lt_or_eq_of_le hx with h | h
          · exact h
          · cases hfull h
        have me := may_eq (n + 6) its x hi hx2
        have hp1 := hp1 hx2
        have bse : ∀ (zs : List (List Bool)), (∀ t ∈ zs, t.length ≤ its.length ∧ DcT its t) → mu its.length zs < m → (∀ N, CovS its zs.reverse N → Cov its [] (lv'.map txD ++ N)) → ∀ s4 : Option M, ∃ m', m' < m ∧ I m' [some (.d (.lst (itsD its))), some (.d (.int room)), some (seO its room w' hd' lv'), some (.lst (txs zs)), s4] := fun zs hz hmu hcz s4 => by
          refine ⟨mu its.length zs, hmu, ?_⟩
          rw [hI]
          exact ⟨zs, w', hd', _, s4, hz, rfl, by omega, by omega, hhd', hlf', hcz, rfl⟩
        have hz1 : ∀ t ∈ ws ++ [x ++ [false]], t.length ≤ its.length ∧ DcT its t := by
          intro t ht
          rcases List.mem_append.mp ht with h | h
          · exact hw t (List.mem_append_left _ h)
          · rw [List.mem_singleton.mp h, List.length_append]; exact ⟨hx2, (dcT_snoc its x false).mpr ⟨hdx, fun h => by cases h⟩⟩
        have ml : ∀ b : Bool, its.length + 1 - (x ++ [b]).length = its.length - x.length := fun b => by rw [List.length_append]; show its.length + 1 - (x.length + 1) = _; omega
        have m1 : mu its.length (ws ++ [x ++ [false]]) < m := by rw [mu_snoc, ml]; omega
        have m2 : mu its.length (ws ++ [x ++ [false]] ++ [x ++ [true]]) < m := by rw [mu_snoc, mu_snoc, ml, ml]; omega
        have wl : (txs ws).length + 1 < 16777216 := by
          have : ws.length ≤ mu its.length ws := mu_len _ ws fun t ht => (hw t (List.mem_append_left _ ht)).1
          unfold txs
          rw [List.length_map]
          omega
        cases hma : mayB its x with
        | true =>
          rw [hma] at me
          have hz2 : ∀ t ∈ ws ++ [x ++ [false]] ++ [x ++ [true]], t.length ≤ its.length ∧ DcT its t := by
            intro t ht
            rcases List.mem_append.mp ht with h | h
            · exact hz1 t h
            · rw [List.mem_singleton.mp h, List.length_append]; exact ⟨hx2, (dcT_snoc its x true).mpr ⟨hdx, fun _ => hma⟩⟩
          have b2 := bse _ hz2 m2 fun N hN => by
            rw [List.reverse_append, List.reverse_append] at hN
            cases hN with
            | cons h1 h2 =>
              cases h2 with
              | cons h2 h3 =>
                have := hcov _ (covS_snoc (.two x _ _ hx2 hma h1 h2) h3)
                simpa only [List.append_assoc] using this
          rw [txs_snoc, txs_snoc, List.append_assoc] at b2
          unfold seO at b2
          simp -dsimp [lap, lap1, a0, a1, me, wl, show (txs ws).length < 16777216 by omega]
          exact b2 _
        | false =>
          rw [hma] at me
          have b1 := bse _ hz1 m1 fun N hN => by
            rw [List.reverse_append] at hN
            cases hN with
            | cons h1 h2 => exact hcov _ (covS_snoc (.one x _ hx2 hma h1) h2)
          rw [txs_snoc] at b1
          unfold seO at b1
          simp -dsimp [lap, lap1, a0, a1, me, wl, show (txs ws).length < 16777216 by omega]
          exact b1 _
      · simp -dsimp
        rw [hI]
        refine ⟨mu its.length ws, by omega, ws, w', hd', _, _, fun t ht => hw t (List.mem_append_left _ ht), rfl, ?_, by omega, hhd', ?_, fun N hN => ?_, rfl⟩
        · rw [List.length_append]
          show lv.length + 1 + _ ≤ 2047
          omega
        · intro d hd
          rcases List.mem_append.mp hd with h | h
          · exact hlf' d h
          · rw [List.mem_singleton.mp h]; exact ⟨_, _, _, rfl, hx, hdx, hpq, hpc⟩
        · have := hcov _ (covS_snoc (.leaf x) hN)
          rw [List.map_append]
          show Cov its [] (lv.map txD ++ [unT (txt x)] ++ N)
          rw [unT_txt, List.append_assoc]
          exact this
  obtain ⟨m, T, e, ⟨w, hd, P, hB, rfl⟩, rfl⟩ := CR.wp_ok key
  exact ⟨w, hd, P, hB, e⟩
/-- no taking that fits is worth more -/
theorem Pap.most {its : List Itm} {room w : Int} {P : List D} (hi : ItsOk its) (h : Pap its room w P) (t : Nat → Bool) (ht : Cl its its.length t) (hr : weS its t ≤ room) : woS its t ≤ w := by
  obtain ⟨lt, hc, hp⟩ := h.co
  obtain ⟨x, hx, ha⟩ := hc.agree hi ht (fun k hk => absurd hk (Nat.not_lt_zero _))
  obtain ⟨d, hd, e⟩ := List.mem_map.mp (hp.mem_iff.mpr hx)
  obtain ⟨y, p, q, e2, hl, _, hpq, hb⟩ := h.lf d hd
  have : y = x := by rw [← (kyD_tx e2).2, e]
  subst this
  have b := bnd_ge its y room p q hi hl hpq t ht hr ha
  have b2 : woS its t * q < q * (w + 1) := Int.lt_of_le_of_lt b hb
  rw [Int.mul_comm] at b2
  have := Int.lt_of_mul_lt_mul_left b2 (by have := hpq.q0; omega)
  omega
-- comprehensions over rows of things; items
theorem lcL_ts {α : Type} {own : List Nat} {g : FG} {fe : FE} (a b : α → D) (S0 : SS) : ∀ (ts : List α) (S : SS) (acc : List D), wipeS S own = S0 →
    (∀ t ∈ ts, ∃ S2, g (a t) S0 = some S2 ∧ (fe S2).wp fun o S4 => ∃ S5, force o S4 = some (b t, S5) ∧ wipeS S5 own = S0) →
    acc.length + ts.length ≤ line → ∃ S', lcL own g tTrue fe (ts.map a) S acc = .ok (acc ++ ts.map b) S' ∧ wipeS S' own = S0
  | [], S, acc, hS, _, _ => ⟨S, by simp [lcL], hS⟩
  | x :: ts, S, acc, hS, h, hl => by
    obtain ⟨S2, h1, h2⟩ := h x (List.mem_cons_self ..)
    have hr := fun y hy => h y (List.mem_cons_of_mem _ hy)
    simp only [List.length_cons] at hl
    obtain ⟨o, S4, e, S5, h3, h4⟩ := R.wp_ok' h2
    show ∃ S', (match g (a x) (wipeS S own) with
      | none => R.no
      | some S1 => (tTrue S1).bind fun b S2 => if b = true then (fe S2).bind fun o S3 => (match force o S3 with
          | some (x, S4) => if acc.length < line then lcL own g tTrue fe (ts.map a) S4 (acc ++ [x]) else .no
          | none => .no) else lcL own g tTrue fe (ts.map a) S2 acc) = _ ∧ wipeS S' own = S0
    rw [hS, h1]
    dsimp only
    have et : tTrue S2 = .ok true S2 := rfl
    rw [et, bind_ok, if_pos rfl, e, bind_ok, h3]
    dsimp only
    rw [if_pos (Nat.lt_of_lt_of_le (show acc.length < acc.length + (ts.length + 1) by omega) hl)]
    obtain ⟨S', e1, e2⟩ := lcL_ts a b S0 ts S5 (acc ++ [b x]) h4 hr (by rw [List.length_append, List.length_singleton]; omega)
    exact ⟨S', by rw [e1]; simp, e2⟩
theorem mLc_ts {α : Type} {own : List Nat} {fi : FI} {g : FG} {fe : FE} {S S1 : SS} {ts : List α} (a b : α → D) (h : fi S = .ok (ts.map a) S1)
    (hs : ∀ t ∈ ts, ∃ S2, g (a t) (wipeS S1 own) = some S2 ∧ (fe S2).wp fun o S4 => ∃ S5, force o S4 = some (b t, S5) ∧ wipeS S5 own = wipeS S1 own)
    (hl : ts.length ≤ line) : mLc own fi g tTrue fe S = .ok (.lst (ts.map b)) (restS S1 S1 own) := by
  unfold mLc
  rw [h, bind_ok]
  obtain ⟨S', e1, e2⟩ := lcL_ts a b (wipeS S1 own) ts S1 [] rfl hs (by simpa using hl)
  rw [e1, bind_ok, List.nil_append]
  rw [← restS_wipe S1 S', e2, restS_wipe]
theorem lcL_tf {α : Type} {own : List Nat} {g : FG} {t : FB} {fe : FE} (a b : α → D) (p : α → Bool) (S0 : SS) : ∀ (ts : List α) (S : SS) (acc : List D), wipeS S own = S0 →
    (∀ x ∈ ts, ∃ S2, g (a x) S0 = some S2 ∧ (t S2).wp fun c S3 => c = p x ∧ (c = false → wipeS S3 own = S0) ∧ (c = true → (fe S3).wp fun o S4 => ∃ S5, force o S4 = some (b x, S5) ∧ wipeS S5 own = S0)) →
    acc.length + ts.length ≤ line → ∃ S', lcL own g t fe (ts.map a) S acc = .ok (acc ++ (ts.filter p).map b) S' ∧ wipeS S' own = S0
  | [], S, acc, hS, _, _ => ⟨S, by simp [lcL], hS⟩
  | x :: ts, S, acc, hS, h, hl => by
    obtain ⟨S2, h1, h2⟩ := h x (List.mem_cons_self ..)
    have hr := fun y hy => h y (List.mem_cons_of_mem _ hy)
    simp only [List.length_cons] at hl
    obtain ⟨c, S3, e, h3, h4, h5⟩ := R.wp_ok' h2
    show ∃ S', (match g (a x) (wipeS S own) with
      | none => R.no
      | some S1 => (t S1).bind fun b S2 => if b = true then (fe S2).bind fun o S3 => (match force o S3 with
          | some (x, S4) => if acc.length < line then lcL own g t fe (ts.map a) S4 (acc ++ [x]) else .no
          | none => .no) else lcL own g t fe (ts.map a) S2 acc) = _ ∧ wipeS S' own = S0
    rw [hS, h1]
    dsimp only
    rw [e, bind_ok]
    cases c with
    | false =>
      rw [if_neg (by decide), List.filter_cons_of_neg (by rw [← h3]; decide)]
      exact lcL_tf a b p S0 ts S3 acc (h4 rfl) hr (by omega)
    | true =>
      obtain ⟨o, S4, e2, S5, h6, h7⟩ := R.wp_ok' (h5 rfl)
      rw [if_pos rfl, e2, bind_ok, h6, List.filter_cons_of_pos h3.symm]
      dsimp only
      rw [if_pos (Nat.lt_of_lt_of_le (show acc.length < acc.length + (ts.length + 1) by omega) hl)]
      obtain ⟨S', e1, e2⟩ := lcL_tf a b p S0 ts S5 (acc ++ [b x]) h7 hr (by rw [List.length_append, List.length_singleton]; omega)
      exact ⟨S', by rw [e1]; simp, e2⟩
theorem mLc_tf {α : Type} {own : List Nat} {fi : FI} {g : FG} {t : FB} {fe : FE} {S S1 : SS} {ts : List α} (a b : α → D) (p : α → Bool) (h : fi S = .ok (ts.map a) S1)
    (hs : ∀ x ∈ ts, ∃ S2, g (a x) (wipeS S1 own) = some S2 ∧ (t S2).wp fun c S3 => c = p x ∧ (c = false → wipeS S3 own = wipeS S1 own) ∧ (c = true → (fe S3).wp fun o S4 => ∃ S5, force o S4 = some (b x, S5) ∧ wipeS S5 own = wipeS S1 own))
    (hl : ts.length ≤ line) : mLc own fi g t fe S = .ok (.lst ((ts.filter p).map b)) (restS S1 S1 own) := by
  unfold mLc
  rw [h, bind_ok]
  obtain ⟨S', e1, e2⟩ := lcL_tf a b p (wipeS S1 own) ts S1 [] rfl hs (by simpa using hl)
  rw [e1, bind_ok, List.nil_append]
  rw [← restS_wipe S1 S', e2, restS_wipe]
theorem gd_its' (n : Nat) (its : List Itm) (hi : ItsOk its) : ∀ k (hk : k < (itsD its).length), gdI n k (itsD its)[k] := fun k hk => by
  have hk2 : k < its.length := by rw [List.length_map] at hk; exact hk
  have : (itsD its)[k]? = some (ix its k).d := by
    rw [List.getElem?_map, List.getElem?_eq_getElem hk2]
    unfold ix
    rw [List.getD_eq_getElem?_getD, List.getElem?_eq_getElem hk2]
    rfl
  rw [List.getElem?_eq_getElem hk] at this
  rw [Option.some.inj this]
  exact item_eq n its hi k hk2
noncomputable def itM (its : List Itm) : M := .d (.lst (itsD its))
-- k85: all takings
noncomputable def okT (its : List Itm) (k : Nat) (s : List Nat) : Bool := match (ix its k).ab with
  | none => true
  | some a => decide (a ∈ s)
noncomputable def TKs (its : List Itm) : Nat → List (List Nat)
  | 0 => [[]]
  | k + 1 => TKs its k ++ ((TKs its k).filter (okT its k)).map (· ++ [k])
theorem htk_succ (t : Nat → Bool) (k : Nat) : tkL t (k + 1) = tkL t k ++ (if t k = true then [k] else []) := by
  unfold tkL
  rw [List.range'_1_concat, List.filter_append, Nat.zero_add]
  congr 1
  by_cases h : t k = true
  · rw [if_pos h]; simp [h]
  · rw [if_neg h]; simp [h]
theorem htk_congr {t t' : Nat → Bool} (k : Nat) (h : ∀ j, j < k → t j = t' j) : tkL t k = tkL t' k := by
  unfold tkL
  refine List.filter_congr fun j hj => h j ?_
  have := List.mem_range'_1.mp hj
  omega
theorem tks_in (its : List Itm) : ∀ k, ∀ s ∈ TKs its k, ∃ t : Nat → Bool, Cl its k t ∧ s = tkL t k
  | 0, s, h => ⟨fun _ => false, ⟨fun _ _ => rfl, fun _ h => by cases h⟩, by rw [List.mem_singleton.mp h]; rfl⟩
  | k + 1, s, h => by
    rcases List.mem_append.mp h with h | h
    · obtain ⟨t, ht, rfl⟩ := tks_in its k s h
      refine ⟨t, ⟨fun j hj => ht.out j (by omega), ht.up⟩, ?_⟩
      rw [htk_succ, if_neg (by rw [ht.out k (Nat.le_refl _)]; decide), List.append_nil]
    · obtain ⟨s', hm, rfl⟩ := List.mem_map.mp h
      obtain ⟨h1, h2⟩ := List.mem_filter.mp hm
      obtain ⟨t, ht, rfl⟩ := tks_in its k s' h1
      have same : ∀ j, j < k → t j = (decide (j = k) || t j) := fun j hj => by rw [decide_eq_false (by omega), Bool.false_or]
      refine ⟨fun j => decide (j = k) || t j, ⟨fun j hj => ?_, fun j hj a ha => ?_⟩, ?_⟩
      · show (decide (j = k) || t j) = false
        rw [decide_eq_false (by omega), ht.out j (by omega)]
        rfl
      · have hj : (decide (j = k) || t j) = true := hj
        rw [Bool.or_eq_true] at hj
        show (decide (a = k) || t a) = true
        rcases hj with e | e
        · have := of_decide_eq_true e
          subst this
          unfold okT at h2
          rw [ha] at h2
          have := (tkL_mem.mp (of_decide_eq_true h2)).2
          rw [this, Bool.or_true]
        · rw [ht.up j e a ha, Bool.or_true]
      · rw [htk_succ, ← htk_congr k same, if_pos (by simp)]
theorem tks_all (its : List Itm) (hi : ItsOk its) : ∀ k, k ≤ its.length → ∀ t : Nat → Bool, Cl its k t → tkL t k ∈ TKs its k
  | 0, _, t, _ => List.mem_singleton.mpr rfl
  | k + 1, hk, t, ht => by
    have same : ∀ j, j < k → t j = (decide (j < k) && t j) := fun j hj => by rw [decide_eq_true hj, Bool.true_and]
    have c0 : Cl its k (fun j => decide (j < k) && t j) := by
      refine ⟨fun j hj => ?_, fun j hj a ha => ?_⟩
      · show (decide (j < k) && t j) = false
        rw [decide_eq_false (by omega)]
        rfl
      · have hj : (decide (j < k) && t j) = true := hj
        rw [Bool.and_eq_true] at hj
        have j1 := of_decide_eq_true hj.1
        have := hi.ab j a (by omega) ha
        show (decide (a < k) && t a) = true
        rw [ht.up j hj.2 a ha, decide_eq_true (by omega)]
        rfl
    have ih := tks_all its hi k (by omega) _ c0
    rw [← htk_congr k same] at ih
    rw [htk_succ]
    by_cases h : t k = true
    · rw [if_pos h]
      refine List.mem_append_right _ (List.mem_map.mpr ⟨_, List.mem_filter.mpr ⟨ih, ?_⟩, rfl⟩)
      unfold okT
      cases ha : (ix its k).ab with
      | none => rfl
      | some a =>
        have := hi.ab k a (by omega) ha
        exact decide_eq_true (tkL_mem.mpr ⟨by omega, ht.up k h a ha⟩)
    · rw [if_neg h, List.append_nil]
      exact List.mem_append_left _ ih
theorem tks_len (its : List Itm) : ∀ k, (TKs its k).length ≤ 2 ^ k
  | 0 => Nat.le_refl _
  | k + 1 => by
    have ih := tks_len its k
    have := List.length_filter_le (okT its k) (TKs its k)
    show (TKs its k ++ _).length ≤ _
    rw [List.length_append, List.length_map, Nat.pow_succ]
    omega
theorem in_nat (a : Nat) (T : List Nat) : inD (.int (a : Int)) (.lst (natD T)) = some (.d (.bl (decide (a ∈ T)))) := by
  have key : ∀ T : List Nat, D.pls (natD T) = true ∧ D.deps (natD T) = 0 ∧ ((natD T).any fun y => D.eqb y (.int (a : Int))) = decide (a ∈ T) := fun T => by
    induction T with
    | nil => exact ⟨rfl, rfl, rfl⟩
    | cons x T ih =>
      refine ⟨?_, ?_, ?_⟩
      · show (true && D.pls (natD T)) = true
        rw [ih.1]; rfl
      · show max 0 (D.deps (natD T)) = 0
        rw [ih.2.1]; rfl
      · show (((x : Int) == (a : Int)) || (natD T).any fun y => D.eqb y (.int (a : Int))) = _
        rw [ih.2.2]
        by_cases c : x = a
        · subst c; simp
        · have : ((x : Int) == (a : Int)) = false := beq_false_of_ne (by omega)
          rw [this, Bool.false_or]
          have : ¬ a = x := fun z => c z.symm
          simp [this]
  obtain ⟨p, d, e⟩ := key T
  have ok : inOk (.int (a : Int)) (natD T) = true := by
    unfold inOk
    rw [p, d, decide_eq_true (by show min 0 0 ≤ 190; decide)]
    rfl
  show (if inOk (.int (a : Int)) (natD T) = true then some (M.d (.bl ((natD T).any fun y => D.eqb y (.int (a : Int))))) else none) = _
  rw [if_pos ok, e]
theorem takings_eq (n : Nat) (its : List Itm) (hi : ItsOk its) : den (n + 1) "_law_takings" [itM its] = .ok (.lst ((TKs its its.length).map fun s => D.lst (natD s))) [some (itM its)] := by
  refine eq_of_wp ?_
  have n10 := hi.n10
  have il : (itsD its).length = its.length := List.length_map ..
  rw [den__law_takings]
  refine run_wp rfl ?_
  unfold b__law_takings itM
  have ia := its_at its
  have ed : ∀ i, (ix its i).d = .tup [abD (ix its i).ab, .int (ix its i).wo, .int (ix its i).we] := fun _ => rfl
  obtain ⟨ID, hID⟩ : ∃ ID, ID = itsD its := ⟨_, rfl⟩
  rw [← hID] at il ia ⊢
  simp -dsimp [List.replicate, il, show its.length ≤ 16777216 by omega, show (its.length : Int) < 4611686018427387904 by omega, show (-4611686018427387904 : Int) ≤ (its.length : Int) by omega]
  obtain ⟨I, hI⟩ : ∃ I : Nat → SS → Prop, I = fun k S => ∃ (s2 s3 : Option Ev.M), S = [some (.d (.lst ID)), some (.lst ((TKs its k).map fun s => D.lst (natD s))), s2, s3, none] := ⟨_, rfl⟩
  refine wp_range I its.length 0 0 _ (by rw [hI]; exact ⟨none, none, rfl⟩) ?_ ?_
  · intro k _ hk S hS
    rw [hI] at hS
    obtain ⟨s2, s3, rfl⟩ := hS
    have hk : k < its.length := by omega
    have iak := ia k hk
    have edk := ed k
    have tl := tks_len its k
    have tp : 2 ^ k ≤ 2 ^ 10 := Nat.pow_le_pow_right (by decide) (by omega)
    have tp : 2 ^ k ≤ 1024 := tp
    have slen : ∀ s ∈ TKs its k, s.length ≤ 10 := fun s hs => by
      obtain ⟨t, _, rfl⟩ := tks_in its k s hs
      have := tkL_len t k
      omega
    have lc : ∀ (X : List D), X = ((TKs its k).map fun s => D.lst (natD s)) → mLc [4] (iSeq (eN 1)) (gN 4) (tOr' (tM (mBin isND (eN 3) (eC .non))) (tM (mBin inD (eN 3) (eN 4)))) (eM (mBin addD (eN 4) (eM (mLst (aCons (eN 2) aNil))))) [some (.d (.lst ID)), some (.lst X), some (.d (.int (k : Int))), some (.d (abD (ix its k).ab)), none] =
        .ok (.lst (((TKs its k).filter (okT its k)).map fun s => D.lst (natD (s ++ [k])))) [some (.d (.lst ID)), some (.d (.lst X)), some (.d (.int (k : Int))), some (.d (abD (ix its k).ab)), none] := by
      intro X hX
      have e3 := mLc_tf (own := [4]) (fi := iSeq (eN 1)) (g := gN 4) (t := tOr' (tM (mBin isND (eN 3) (eC .non))) (tM (mBin inD (eN 3) (eN 4)))) (fe := eM (mBin addD (eN 4) (eM (mLst (aCons (eN 2) aNil))))) (S := [some (.d (.lst ID)), some (.lst X), some (.d (.int (k : Int))), some (.d (abD (ix its k).ab)), none]) (S1 := [some (.d (.lst ID)), some (.d (.lst X)), some (.d (.int (k : Int))), some (.d (abD (ix its k).ab)), none]) (ts := TKs its k) (fun s => D.lst (natD s)) (fun s => D.lst (natD (s ++ [k]))) (okT its k) (by
        rw [← hX]
        simp -dsimp) (by
        intro s hs
        have sl := slen s hs
        have nl : (natD s).length = s.length := List.length_map ..
        have na : natD (s ++ [k]) = natD s ++ [.int (k : Int)] := List.map_append
        refine ⟨[some (.d (.lst ID)), some (.d (.lst X)), some (.d (.int (k : Int))), some (.d (abD (ix its k).ab)), some (.d (.lst (natD s)))], rfl, ?_⟩
        unfold okT
        have inn := fun a => in_nat a s
        rw [na]
        obtain ⟨NS, hNS⟩ : ∃ NS, NS = natD s := ⟨_, rfl⟩
        rw [← hNS] at nl inn ⊢
        cases ha : (ix its k).ab with
        | none =>
          show (tOr' _ _ [some (.d (.lst ID)), some (.d (.lst X)), some (.d (.int (k : Int))), some (.d .non), some (.d (.lst NS))]).wp _
          simp -dsimp [nl, wipeS, D.isNon, abD, show s.length + 1 ≤ 16777216 by omega]
        | some a =>
          show (tOr' _ _ [some (.d (.lst ID)), some (.d (.lst X)), some (.d (.int (k : Int))), some (.d (.int (a : Int))), some (.d (.lst NS))]).wp _
          by_cases c : a ∈ s
          · simp -dsimp [nl, wipeS, D.isNon, abD, inn, c, show s.length + 1 ≤ 16777216 by omega]
          · simp -dsimp [nl, wipeS, D.isNon, abD, inn, c, show s.length + 1 ≤ 16777216 by omega]) (by show _ ≤ 16777216; omega)
      rw [e3]
      rfl
    have lcx := lc _ rfl
    have xl : ((TKs its k).map fun s => D.lst (natD s)).length ≤ 1024 := by rw [List.length_map]; omega
    have yl : (((TKs its k).filter (okT its k)).map fun s => D.lst (natD (s ++ [k]))).length ≤ 1024 := by
      rw [List.length_map]
      exact Nat.le_trans (List.length_filter_le ..) (by omega)
    have nx : (TKs its (k + 1)).map (fun s => D.lst (natD s)) = ((TKs its k).map fun s => D.lst (natD s)) ++ (((TKs its k).filter (okT its k)).map fun s => D.lst (natD (s ++ [k]))) := by
      show (TKs its k ++ ((TKs its k).filter (okT its k)).map (· ++ [k])).map (fun s => D.lst (natD s)) = _
      rw [List.map_append, List.map_map]
      rfl
    obtain ⟨X, hX⟩ : ∃ X, X = (TKs its k).map fun s => D.lst (natD s) := ⟨_, rfl⟩
    obtain ⟨Y, hY⟩ : ∃ Y, Y = ((TKs its k).filter (okT its k)).map fun s => D.lst (natD (s ++ [k])) := ⟨_, rfl⟩
    rw [← hX] at lcx xl nx ⊢
    rw [← hY] at lcx yl nx
    obtain ⟨ab, hab⟩ : ∃ ab, ab = abD (ix its k).ab := ⟨_, rfl⟩
    rw [← hab] at lcx edk
    refine ⟨[some (.d (.lst ID)), some (.lst X), some (.d (.int (k : Int))), s3, none], by rw [Nat.sub_zero, Int.zero_add]; rfl, ?_⟩
    simp -dsimp [iak, edk, lcx, show X.length + Y.length ≤ 16777216 by omega]
    rw [hI]
    exact ⟨_, _, by rw [nx]⟩
  · intro S hS
    rw [hI] at hS
    obtain ⟨s2, s3, rfl⟩ := hS
    simp -dsimp
-- k85: _law_due
noncomputable def woL (its : List Itm) (s : List Nat) : Int := (s.map fun i => (ix its i).wo).sum
noncomputable def weL (its : List Itm) (s : List Nat) : Int := (s.map fun i => (ix its i).we).sum
theorem woL_tk (its : List Itm) (t : Nat → Bool) : woL its (tkL t its.length) = woS its t := by
  unfold woL woS tkL
  rw [sumC_list]
theorem weL_tk (its : List Itm) (t : Nat → Bool) : weL its (tkL t its.length) = weS its t := by
  unfold weL weS tkL
  rw [sumC_list]
/-- the law's dict's keys -/
noncomputable def hasK (kv : List (Key × D)) (x : Str) : Prop := (.inr x : Key) ∈ kv.map (·.1)
theorem dkPut_has (a : List (Key × D)) (k : Key) (v : D) (k' : Key) : k' ∈ (dkPut a k v).map (·.1) ↔ k' = k ∨ k' ∈ a.map (·.1) := by
  unfold dkPut
  split
  · rename_i h
    rw [List.any_eq_true] at h
    obtain ⟨p, hp, e⟩ := h
    have e := of_decide_eq_true e
    have em : (a.map fun p => if p.1 = k then (p.1, v) else p).map (·.1) = a.map (·.1) := by
      rw [List.map_map]
      refine List.map_congr_left fun q _ => ?_
      show (if q.1 = k then (q.1, v) else q).1 = q.1
      split <;> rfl
    first
      | rw [em]
      | skip
    constructor
    · intro h; exact .inr (by simpa using h)
    · rintro (h | h)
      · rw [h, ← e]; exact List.mem_map.mpr ⟨p, hp, rfl⟩
      · exact h
  · rw [List.map_append, List.mem_append]
    constructor
    · rintro (h | h)
      · exact .inr h
      · exact .inl (by simpa using h)
    · rintro (h | h)
      · exact .inr (by simp [h])
      · exact .inl h
theorem dkPut_len (a : List (Key × D)) (k : Key) (v : D) : (dkPut a k v).length ≤ a.length + 1 := by
  unfold dkPut
  split
  · rw [List.length_map]; omega
  · rw [List.length_append]; exact Nat.le_refl _
structure DueI (its : List Itm) (room : Int) (P : List (List Nat)) (h : Int) (kv : List (Key × D)) : Prop where
  hi : ∀ s ∈ P, weL its s ≤ room → woL its s ≤ h
  ha : ∀ s ∈ P, weL its s ≤ room → woL its s = h → hasK kv (rp (.lst (natD s)))
  at_ : h = -1 ∨ ∃ s ∈ P, weL its s ≤ room ∧ woL its s = h
  bd : -1 ≤ h ∧ h ≤ 100000000000
  ln : kv.length ≤ P.length
theorem DueI.skip {its : List Itm} {room : Int} {P : List (List Nat)} {h : Int} {kv : List (Key × D)} (i : DueI its room P h kv) (s : List Nat) (hs : ¬ weL its s ≤ room) : DueI its room (P ++ [s]) h kv := by
  refine ⟨fun x hx hf => ?_, fun x hx hf he => ?_, ?_, i.bd, by have := i.ln; rw [List.length_append]; omega⟩
  · rcases List.mem_append.mp hx with z | z
    · exact i.hi x z hf
    · rw [List.mem_singleton.mp z] at hf; exact absurd hf hs
  · rcases List.mem_append.mp hx with z | z
    · exact i.ha x z hf he
    · rw [List.mem_singleton.mp z] at hf; exact absurd hf hs
  · rcases i.at_ with e | ⟨x, hx, e⟩
    · exact .inl e
    · exact .inr ⟨x, List.mem_append_left _ hx, e⟩
theorem DueI.low {its : List Itm} {room : Int} {P : List (List Nat)} {h : Int} {kv : List (Key × D)} (i : DueI its room P h kv) (s : List Nat) (hs : woL its s < h) : DueI its room (P ++ [s]) h kv := by
  refine ⟨fun x hx hf => ?_, fun x hx hf he => ?_, ?_, i.bd, by have := i.ln; rw [List.length_append]; omega⟩
  · rcases List.mem_append.mp hx with z | z
    · exact i.hi x z hf
    · rw [List.mem_singleton.mp z]; omega
  · rcases List.mem_append.mp hx with z | z
    · exact i.ha x z hf he
    · rw [List.mem_singleton.mp z] at he; omega
  · rcases i.at_ with e | ⟨x, hx, e⟩
    · exact .inl e
    · exact .inr ⟨x, List.mem_append_left _ hx, e⟩
theorem DueI.same {its : List Itm} {room : Int} {P : List (List Nat)} {h : Int} {kv : List (Key × D)} (i : DueI its room P h kv) (s : List Nat) (hf0 : weL its s ≤ room) (hs : woL its s = h) (hl : (dkPut kv (.inr (rp (.lst (natD s)))) (.bl true)).length ≤ kv.length + 1) : DueI its room (P ++ [s]) h (dkPut kv (.inr (rp (.lst (natD s)))) (.bl true)) := by
  refine ⟨fun x hx hf => ?_, fun x hx hf he => ?_, .inr ⟨s, List.mem_append_right _ (List.mem_singleton.mpr rfl), hf0, hs⟩, i.bd, by have := i.ln; rw [List.length_append]; show _ ≤ P.length + 1; omega⟩
  · rcases List.mem_append.mp hx with z | z
    · exact i.hi x z hf
    · rw [List.mem_singleton.mp z]; omega
  · unfold hasK
    rw [dkPut_has]
    rcases List.mem_append.mp hx with z | z
    · exact .inr (i.ha x z hf he)
    · rw [List.mem_singleton.mp z]; exact .inl rfl
theorem DueI.more {its : List Itm} {room : Int} {P : List (List Nat)} {h : Int} {kv : List (Key × D)} (i : DueI its room P h kv) (s : List Nat) (hf0 : weL its s ≤ room) (hs : h < woL its s) (hb : woL its s ≤ 100000000000) : DueI its room (P ++ [s]) (woL its s) [(.inr (rp (.lst (natD s))), .bl true)] := by
  refine ⟨fun x hx hf => ?_, fun x hx hf he => ?_, .inr ⟨s, List.mem_append_right _ (List.mem_singleton.mpr rfl), hf0, rfl⟩, ⟨by have := i.bd; omega, hb⟩, by rw [List.length_append]; show 1 ≤ P.length + 1; omega⟩
  · rcases List.mem_append.mp hx with z | z
    · have := i.hi x z hf; omega
    · rw [List.mem_singleton.mp z]; exact Int.le_refl _
  · rcases List.mem_append.mp hx with z | z
    · have := i.hi x z hf; omega
    · rw [List.mem_singleton.mp z]; exact List.mem_singleton.mpr rfl
-- k85: _law_due told
theorem ig (i : Int) (h : -18446744073709551616 < i ∧ i < 18446744073709551616) : (D.int i).fit = true ∧ (D.int i).dep ≤ 2 ∧ (D.int i).cst ≤ 25 := ⟨decide_eq_true h, Nat.zero_le _, Nat.le_refl _⟩
theorem fit_nat (s : List Nat) (h : s.length ≤ 10) (hb : ∀ i ∈ s, i < 10) : reprD (.lst (natD s)) = some (.d (.str (rp (.lst (natD s))))) := by
  have key : ∀ s : List Nat, (∀ i ∈ s, i < 10) → D.fits (natD s) = true ∧ D.deps (natD s) = 0 ∧ D.csts (natD s) ≤ 100 * s.length := fun s => by
    induction s with
    | nil => intro _; exact ⟨rfl, rfl, Nat.le_refl _⟩
    | cons x s ih =>
      intro hb
      obtain ⟨a, b, c⟩ := ih fun i hi => hb i (List.mem_cons_of_mem _ hi)
      have hx := hb x List.mem_cons_self
      have fb : -18446744073709551616 < (x : Int) ∧ (x : Int) < 18446744073709551616 := by omega
      have fx : (D.int (x : Int)).fit = true := (ig (x : Int) fb).1
      refine ⟨?_, ?_, ?_⟩
      · show ((D.int (x : Int)).fit && D.fits (natD s)) = true
        rw [a, fx]; rfl
      · show max 0 (D.deps (natD s)) = 0
        rw [b]; rfl
      · show (D.int (x : Int)).cst + 2 + D.csts (natD s) ≤ 100 * (s.length + 1)
        have := (ig (x : Int) fb).2.2
        omega
  obtain ⟨a, b, c⟩ := key s hb
  rw [reprD_l, if_pos (rpOk_of (show (D.lst (natD s)).fit = true from a) (by show D.deps (natD s) + 1 ≤ _; omega) (by show D.csts (natD s) + 3 ≤ _; omega))]
theorem ldue_eq (n : Nat) (its : List Itm) (room : Int) (hi : ItsOk its) : ∃ h kv, DueI its room (TKs its its.length) h kv ∧
    den (n + 2) "_law_due" [itM its, .d (.int room)] = .ok (.d (.tup [.int h, .dk kv])) [some (itM its), some (.d (.int room))] := by
  have key : (den (n + 2) "_law_due" [itM its, .d (.int room)]).wp fun r S => (∃ h kv, DueI its room (TKs its its.length) h kv ∧ r = .d (.tup [.int h, .dk kv])) ∧ S = [some (itM its), some (.d (.int room))] := by
    have n10 := hi.n10
    have tk := takings_eq n its hi
    have tl := tks_len its its.length
    have tp : 2 ^ its.length ≤ 2 ^ 10 := Nat.pow_le_pow_right (by decide) n10
    have tp : 2 ^ its.length ≤ 1024 := tp
    have tin := tks_in its its.length
    rw [den__law_due]
    refine run_wp rfl ?_
    unfold b__law_due
    have ia := its_at its
    have ed : ∀ i, (ix its i).d = .tup [abD (ix its i).ab, .int (ix its i).wo, .int (ix its i).we] := fun _ => rfl
    unfold itM at tk ⊢
    obtain ⟨ID, hID⟩ : ∃ ID, ID = itsD its := ⟨_, rfl⟩
    rw [← hID] at tk ia ⊢
    obtain ⟨TK, hTK⟩ : ∃ TK, TK = TKs its its.length := ⟨_, rfl⟩
    rw [← hTK] at tk tl tin ⊢
    simp -dsimp [List.replicate, tk]
    have lW : ∀ (c : Int) (f : Itm → Int) (s : List Nat) (L : List D) (v2 v3 v5 : Option M), L = natD s → (∀ i ∈ s, i < its.length) → s.length ≤ 10 → (∀ i, i < its.length → ixD (ix its i).d (.int c) = some (.d (.int (f (ix its i))))) → mLc [6] (iSeq (eN 4)) (gN 6) tTrue (eM (mBin ixD (eM (mBin ixD (eN 0) (eN 6))) (eC (.int c)))) [some (.d (.lst ID)), some (.d (.int room)), v2, v3, some (.d (.lst L)), v5, none] =
        .ok (.lst (s.map fun i => D.int (f (ix its i)))) [some (.d (.lst ID)), some (.d (.int room)), v2, v3, some (.d (.lst L)), v5, none] := by
      intro c f s L v2 v3 v5 hL hs hl hf
      have e2 := mLc_ts (own := [6]) (fi := iSeq (eN 4)) (g := gN 6) (fe := eM (mBin ixD (eM (mBin ixD (eN 0) (eN 6))) (eC (.int c)))) (S := [some (.d (.lst ID)), some (.d (.int room)), v2, v3, some (.d (.lst L)), v5, none]) (S1 := [some (.d (.lst ID)), some (.d (.int room)), v2, v3, some (.d (.lst L)), v5, none]) (ts := s) (fun i : Nat => D.int (i : Int)) (fun i => D.int (f (ix its i))) (by
        show _ = Ev.R.ok (natD s) _
        rw [← hL]
        simp -dsimp) (by
        intro i hit
        have h1 := hs i hit
        have iai := ia i h1
        have hfi := hf i h1
        obtain ⟨dd, hdd⟩ : ∃ dd, dd = (ix its i).d := ⟨_, rfl⟩
        rw [← hdd] at iai hfi
        refine ⟨[some (.d (.lst ID)), some (.d (.int room)), v2, v3, some (.d (.lst L)), v5, some (.d (.int (i : Int)))], rfl, ?_⟩
        simp -dsimp [iai, hfi, wipeS]) (by show _ ≤ 16777216; omega)
      rw [e2]
      rfl
    obtain ⟨I, hI⟩ : ∃ I : List D → SS → Prop, I = fun ds S => ∃ (P X : List (List Nat)) (h : Int) (kv : List (Key × D)) (s4 s5 : Option Ev.M), TK = P ++ X ∧ ds = (X.map fun s => D.lst (natD s)) ∧ DueI its room P h kv ∧
      S = [some (.d (.lst ID)), some (.d (.int room)), some (.d (.int h)), some (.dk kv), s4, s5, none] := ⟨_, rfl⟩
    refine wp_forL I ?_ ?_ _ _ (by
      rw [hI]
      refine ⟨[], TK, -1, [], none, none, rfl, rfl, ⟨(fun s h => by cases h), (fun s h => by cases h), .inl rfl, (by decide), Nat.le_refl _⟩, rfl⟩)
    · intro S hS
      rw [hI] at hS
      obtain ⟨P, X, h, kv, s4, s5, e1, e2, hD, rfl⟩ := hS
      have : X = [] := by
        cases X with
        | nil => rfl
        | cons z X => cases e2
      subst this
      rw [List.append_nil] at e1
      rw [← e1] at hD
      simp -dsimp
      first | exact hD | exact ⟨h, kv, hD, rfl, rfl⟩ | exact ⟨hD, rfl, rfl⟩
    · intro d ds S hS
      rw [hI] at hS
      obtain ⟨P, X, h, kv, s4, s5, e1, e2, hD, rfl⟩ := hS
      cases X with
      | nil => cases e2
      | cons s X =>
        injection e2 with e3 e4
        have e3 : d = D.lst (natD s) := e3
        subst e3
        obtain ⟨t, ht, est⟩ := tin s (by rw [e1]; exact List.mem_append_right _ List.mem_cons_self)
        have smem : ∀ i ∈ s, i < its.length := fun i h => by rw [est] at h; exact (tkL_mem.mp h).1
        have slen : s.length ≤ 10 := by have := tkL_len t its.length; rw [est]; omega
        have rp0 := fit_nat s slen fun i h => by have := smem i h; omega
        have wob := woS_bd its hi t
        rw [← woL_tk, ← est] at wob
        have lnP : P.length ≤ 1024 := by rw [e1, List.length_append] at tl; omega
        have kvl : kv.length ≤ 1024 := Nat.le_trans hD.ln lnP
        have s1 : sumD (.lst (s.map fun i => D.int (ix its i).wo)) = some (.d (.int (woL its s))) := by
          have := sumD_ints (s.map fun i => (ix its i).wo)
          rw [List.map_map] at this
          exact this
        have s2 : sumD (.lst (s.map fun i => D.int (ix its i).we)) = some (.d (.int (weL its s))) := by
          have := sumD_ints (s.map fun i => (ix its i).we)
          rw [List.map_map] at this
          exact this
        have f2 : ∀ i, i < its.length → ixD (ix its i).d (.int 2) = some (.d (.int ((fun x : Itm => x.we) (ix its i)))) := fun i _ => by rw [ed]; simp -dsimp
        have f1 : ∀ i, i < its.length → ixD (ix its i).d (.int 1) = some (.d (.int ((fun x : Itm => x.wo) (ix its i)))) := fun i _ => by rw [ed]; simp -dsimp
        have i1 := hD.skip s
        have i2 := hD.low s
        have i3 := fun a b => hD.same s a b (dkPut_len _ _ _)
        have i4 := hD.more s
        obtain ⟨L, hL⟩ : ∃ L, L = natD s := ⟨_, rfl⟩
        have l2 := fun v2 v3 v5 => lW 2 (fun x => x.we) s L v2 v3 v5 hL smem slen f2
        have l1 := fun v2 v3 v5 => lW 1 (fun x => x.wo) s L v2 v3 v5 hL smem slen f1
        obtain ⟨W1, hW1⟩ : ∃ W1, W1 = s.map fun i => D.int (ix its i).wo := ⟨_, rfl⟩
        obtain ⟨W2, hW2⟩ : ∃ W2, W2 = s.map fun i => D.int (ix its i).we := ⟨_, rfl⟩
        rw [← hW1] at l1 s1
        rw [← hW2] at l2 s2
        rw [← hL] at rp0 i3 i4 ⊢
        obtain ⟨we, hwe⟩ : ∃ we, we = weL its s := ⟨_, rfl⟩
        obtain ⟨wo, hwo⟩ : ∃ wo, wo = woL its s := ⟨_, rfl⟩
        rw [← hwe] at s2 i1 i3 i4
        rw [← hwo] at s1 i2 i3 i4 wob
        obtain ⟨rs, hrs⟩ : ∃ rs, rs = rp (.lst L) := ⟨_, rfl⟩
        rw [← hrs] at rp0 i3 i4
        have nx : ∀ h kv v5, DueI its room (P ++ [s]) h kv → I ds [some (.d (.lst ID)), some (.d (.int room)), some (.d (.int h)), some (.dk kv), some (.d (.lst L)), v5, none] := fun h kv v5 hd => by
          rw [hI]
          exact ⟨P ++ [s], X, h, kv, _, _, by rw [e1]; simp, e4, hd, rfl⟩
        refine ⟨[some (.d (.lst ID)), some (.d (.int room)), some (.d (.int h)), some (.dk kv), some (.d (.lst L)), s5, none], rfl, ?_⟩
        by_cases c : we ≤ room
        · by_cases c2 : h < wo
          · simp -dsimp [-reprD_l, l2, s2, c, l1, s1, c2, rp0, dkPut]
            exact nx _ _ _ (i4 c c2 (by omega))
          · by_cases c3 : wo = h
            · have := i3 c c3
              rw [← c3] at this ⊢
              simp -dsimp [-reprD_l, l2, s2, c, l1, s1, rp0, show kv.length < 16777216 by omega]
              exact nx _ _ _ this
            · simp -dsimp [-reprD_l, l2, s2, c, l1, s1, c2, c3]
              exact nx _ _ _ (i2 (by omega))
        · simp -dsimp [-reprD_l, l2, s2, c]
          exact nx _ _ _ (i1 c)
  obtain ⟨a, S, e, ⟨h, kv, hD, rfl⟩, rfl⟩ := CR.wp_ok key
  exact ⟨h, kv, hD, e⟩
-- k85
theorem itm_pl (i : Itm) : D.pl i.d = true := by
  unfold Itm.d
  cases i.ab <;> rfl
theorem itm_dep (i : Itm) : D.dep i.d ≤ 1 := by
  unfold Itm.d
  cases i.ab <;> exact Nat.le_refl _
theorem itm_eqb (i : Itm) : D.eqb i.d i.d = true := by
  unfold Itm.d
  cases i.ab with
  | none => simp
  | some j => simp
theorem its_eqbs (its : List Itm) : D.eqbs (itsD its) (itsD its) = true := by
  induction its with
  | nil => rfl
  | cons i its ih =>
    show (D.eqb i.d i.d && D.eqbs (itsD its) (itsD its)) = true
    rw [ih, itm_eqb]
    rfl
theorem its_pl (its : List Itm) : D.pls (itsD its) = true := pls_of fun d hd => by
  obtain ⟨b, _, rfl⟩ := List.mem_map.mp hd
  exact itm_pl b
theorem its_dep (its : List Itm) : D.deps (itsD its) ≤ 1 := deps_of fun d hd => by
  obtain ⟨b, _, rfl⟩ := List.mem_map.mp hd
  exact itm_dep b
theorem its_ne (its : List Itm) : neD (.lst (itsD its)) (.lst (itsD its)) = some (.d (.bl false)) := by
  have h : eqOk (.lst (itsD its)) (.lst (itsD its)) = true := by
    unfold eqOk
    have h1 : D.pl (.lst (itsD its)) = true := its_pl its
    have h2 : D.dep (.lst (itsD its)) = D.deps (itsD its) + 1 := rfl
    have h3 := its_dep its
    rw [h1, h2]
    simp
    omega
  unfold neD
  rw [if_pos h]
  have : D.eqb (.lst (itsD its)) (.lst (itsD its)) = true := its_eqbs its
  rw [this]
  rfl
noncomputable def RowP (d : D) : Prop := ∃ (its : List Itm) (room h : Int) (kv : List (Key × D)), ItsOk its ∧ (0 ≤ room ∧ room ≤ 1000) ∧ DueI its room (TKs its its.length) h kv ∧ d = .tup [.lst (itsD its), .int room, .tup [.int h, .dk kv]]
theorem due_best {its : List Itm} {room w h : Int} {hd P : List D} {kv : List (Key × D)} (hi : ItsOk its) (hB : BestT its room w hd P) (hD : DueI its room (TKs its its.length) h kv) :
    h = w ∧ reprD (.lst hd) = some (.d (.str (rp (.lst hd)))) ∧ dninD (.str (rp (.lst hd))) (.dk kv) = some (.d (.bl false)) := by
  obtain ⟨t, ht, hr, hw, rfl⟩ := hB.hd
  have w0 := hB.w0
  have n10 := hi.n10
  have mem := tks_all its hi its.length (Nat.le_refl _) t ht
  have f1 : weL its (tkL t its.length) ≤ room := by rw [weL_tk]; exact hr
  have f2 : woL its (tkL t its.length) = w := by rw [woL_tk]; exact hw
  have h1 := hD.hi _ mem f1
  rw [f2] at h1
  have h2 : h ≤ w := by
    rcases hD.at_ with e | ⟨s, hs, hf, e⟩
    · omega
    · obtain ⟨t', ht', rfl⟩ := tks_in its its.length s hs
      rw [weL_tk] at hf
      rw [woL_tk] at e
      rw [← e]
      exact Pap.most hi hB.pa t' ht' hf
  have e : h = w := by omega
  subst e
  refine ⟨rfl, fit_nat _ (by have := tkL_len t its.length; omega) (fun i hi => by have := (tkL_mem.mp hi).1; omega), ?_⟩
  have hk := hD.ha _ mem f1 f2
  have := (dkGet_some kv (.inr (rp (.lst (natD (tkL t its.length)))))).mpr hk
  show some (M.d (.bl (!(dkGet kv (.inr (rp (.lst (natD (tkL t its.length)))))).isSome))) = _
  rw [this]
  rfl
theorem main (ns : List Int) (hl : ns.length ≤ 63) : ∃ fin, g_law (den 100) [.d (scrD ns)] = .ok (.d (.bl true)) fin := by
  obtain ⟨g, hg, hb⟩ := bag_eq (den 99) ns hl
  suffices h : (g_law (den 100) [.d (scrD ns)]).wp fun r _ => r = .d (.bl true) by
    obtain ⟨a, S, e, h⟩ := CR.wp_ok h
    exact ⟨S, by rw [e, h]⟩
  refine run_wp rfl ?_
  unfold b_law
  obtain ⟨sd, hsd⟩ : ∃ x, x = scrD ns := ⟨_, rfl⟩
  rw [← hsd] at hb ⊢
  simp -dsimp [List.replicate, den__law_bag, hb]
  obtain ⟨I, hI⟩ : ∃ I : Nat → SS → Prop, I = fun k S => ∃ (g : Bag) (R : List D) (s3 s4 s5 : Option M), g.Ok ∧ (∀ d ∈ R, RowP d) ∧ R.length ≤ k ∧ S = [some (.d sd), some g.enc, some (.lst R), s3, s4, s5, none, none, none] := ⟨_, rfl⟩
  refine wp_range I 3 0 0 _ (by rw [hI]; exact ⟨g, [], none, none, none, hg, (fun d h => by cases h), Nat.le_refl _, rfl⟩) ?_ ?_
  · intro k _ hk S hS
    rw [hI] at hS
    obtain ⟨g, R, s3, s4, s5, hg, hR, hRl, rfl⟩ := hS
    refine ⟨[some (.d sd), some g.enc, some (.lst R), some (.d (.int (k : Int))), s4, s5, none, none, none], by rw [Nat.sub_zero, Int.zero_add]; rfl, ?_⟩
    simp -dsimp [den__law_take]
    refine take_wp _ g _ hg (by decide) (by decide) fun a g a0 a1 hg => ?_
    simp -dsimp
    refine take_wp _ g _ hg (by decide) (by decide) fun b g b0 b1 hg => ?_
    obtain ⟨c, hc, ec⟩ : ∃ c : Int, (c = 6 ∨ c = 10) ∧ atI [D.int 6, .int 10] b = some (.int c) := by
      have : b = 0 ∨ b = 1 := by omega
      rcases this with rfl | rfl
      · exact ⟨6, .inl rfl, by simp⟩
      · exact ⟨10, .inr rfl, by simp⟩
    simp -dsimp [ec]
    refine take_wp _ g _ hg (by decide) (by decide) fun u g u0 u1 hg => ?_
    obtain ⟨m, hm, hat⟩ : ∃ m : Nat, m ≤ 10 ∧ atI [D.int a, .int c] u = some (.int (m : Int)) := by
      have : u = 0 ∨ u = 1 := by omega
      rcases this with rfl | rfl
      · exact ⟨a.toNat, by omega, by rw [show ((a.toNat : Nat) : Int) = a by omega]; simp⟩
      · exact ⟨c.toNat, by omega, by rw [show ((c.toNat : Nat) : Int) = c by omega]; simp⟩
    simp -dsimp [hat]
    refine items_wp 98 g m hm hg fun its g hi him hg => ?_
    simp -dsimp
    refine room_wp 98 g hg fun room g hroom hg => ?_
    obtain ⟨h, kv, hD, ld⟩ := ldue_eq 98 its room hi
    unfold itM at ld
    have ld : den 100 "_law_due" [.d (.lst (itsD its)), .d (.int room)] = _ := ld
    have fin : RowP (.tup [.lst (itsD its), .int room, .tup [.int h, .dk kv]]) := ⟨its, room, h, kv, hi, hroom, hD, rfl⟩
    obtain ⟨ID, hID⟩ : ∃ ID, ID = itsD its := ⟨_, rfl⟩
    rw [← hID] at ld fin ⊢
    simp -dsimp [ld, show R.length < 16777216 by omega]
    rw [hI]
    refine ⟨g, R ++ [.tup [.lst ID, .int room, .tup [.int h, .dk kv]]], _, _, _, hg, fun d hd => ?_, by rw [List.length_append]; show R.length + 1 ≤ k + 1; omega, rfl⟩
    rcases List.mem_append.mp hd with z | z
    · exact hR d z
    · rw [List.mem_singleton.mp z]; exact fin
  · intro S hS
    rw [hI] at hS
    obtain ⟨g, R, s3, s4, s5, hg, hR, hRl, rfl⟩ := hS
    have cl : (cutD R none (some 1)).length ≤ 3 := by
      unfold cutD
      rw [List.length_take, List.length_drop]
      omega
    have cm : ∀ d ∈ cutD R none (some 1), d ∈ R := fun d h => List.mem_of_mem_drop (List.mem_of_mem_take h)
    obtain ⟨C, hC⟩ : ∃ C, C = cutD R none (some 1) := ⟨_, rfl⟩
    rw [← hC] at cl cm
    simp -dsimp [← hC, show R.length + C.length ≤ 16777216 by omega]
    obtain ⟨J, hJ⟩ : ∃ J : List D → SS → Prop, J = fun ds S => (∀ d ∈ ds, RowP d) ∧ ∃ (s2 s4 s5 s6 s7 s8 : Option M), S = [some (.d sd), some g.enc, s2, s3, s4, s5, s6, s7, s8] := ⟨_, rfl⟩
    refine wp_forL J ?_ ?_ _ _ (by
      rw [hJ]
      refine ⟨fun d hd => ?_, _, _, _, _, _, _, rfl⟩
      rcases List.mem_append.mp hd with z | z
      · exact hR d z
      · exact hR d (cm d z))
    · intro S hS
      rw [hJ] at hS
      obtain ⟨_, s2, s4, s5, s6, s7, s8, rfl⟩ := hS
      simp -dsimp
    · intro d ds S hS
      rw [hJ] at hS
      obtain ⟨hd, s2, s4, s5, s6, s7, s8, rfl⟩ := hS
      obtain ⟨its, room, h, kv, hi, hroom, hD, rfl⟩ := hd d List.mem_cons_self
      have n10 := hi.n10
      obtain ⟨w, hd2, P, hB, eb⟩ := best_is 92 its room hi hroom (gd_its' _ its hi)
      have eb : den 100 "best" [.d (.lst (itsD its)), .d (.int room)] = _ := eb
      obtain ⟨rfl, r1, r2⟩ := due_best hi hB hD
      have ne := its_ne its
      have il : (itsD its).length = its.length := List.length_map ..
      have pln := hB.ln
      have hdl : hd2.length < 16777216 := by
        obtain ⟨t, _, _, _, rfl⟩ := hB.hd
        unfold natD
        rw [List.length_map, ]
        have := tkL_len t its.length
        omega
      have nh : neD (.int h) (.int h) = some (.d (.bl false)) := by simp
      obtain ⟨ID, hID⟩ : ∃ ID, ID = itsD its := ⟨_, rfl⟩
      rw [← hID] at eb ne il ⊢
      obtain ⟨rs, hrs⟩ : ∃ rs, rs = rp (.lst hd2) := ⟨_, rfl⟩
      rw [← hrs] at r1 r2
      refine ⟨[some (.d sd), some g.enc, s2, s3, some (.d (.lst ID)), some (.d (.int room)), some (.d (.tup [.int h, .dk kv])), s7, s8], rfl, ?_⟩
      have fz2 : ∀ S : SS, SS.frzA (s2 :: S) = (s2.map fun m => Ev.M.d m.toD) :: SS.frzA S := by intro S; cases s2 <;> rfl
      have fz3 : ∀ S : SS, SS.frzA (s3 :: S) = (s3.map fun m => Ev.M.d m.toD) :: SS.frzA S := by intro S; cases s3 <;> rfl
      by_cases c : room = 60
      · subst c
        by_cases c2 : 2 < its.length
        · simp -dsimp [-neD_ap, -reprD_l, isiK, fz2, fz3, eb, r1, r2, ne, nh, il, c2, hdl, show its.length ≤ 16777216 by omega, show (2 : Int) < (its.length : Int) by omega]
          rw [hJ]
          exact ⟨fun x hx => hd x (List.mem_cons_of_mem _ hx), _, _, _, _, _, _, rfl⟩
        · simp -dsimp [-neD_ap, -reprD_l, isiK, fz2, fz3, eb, r1, r2, ne, nh, il, c2, hdl, show its.length ≤ 16777216 by omega, show ¬ (2 : Int) < (its.length : Int) by omega]
          rw [hJ]
          exact ⟨fun x hx => hd x (List.mem_cons_of_mem _ hx), _, _, _, _, _, _, rfl⟩
      · simp -dsimp [-neD_ap, -reprD_l, isiK, fz2, fz3, eb, r1, r2, ne, nh, il, c, hdl, show its.length ≤ 16777216 by omega]
        rw [hJ]
        exact ⟨fun x hx => hd x (List.mem_cons_of_mem _ hx), _, _, _, _, _, _, rfl⟩
end Ev
open PySem PySem.W PyProof.Rows
set_option maxHeartbeats 0 in
theorem PySem.Challenge.cw_callmelt_k85_best_of_all_takings_holds : PySem.Challenge.rw_callmelt_k85_best_of_all_takings.Holds := by
  w_on; o_law; k_head; (case hw => w_witness2)
  k_fill
  refine Ev.walk_g (l := PySem.Challenge.rw_callmelt_k85_best_of_all_takings) (n := 63) (k := 100 + 1) (x := "_law_script") (sp := fun w => Ev.spA _ 1 (Ev.g_law (Ev.den 100))) rfl (by decide) rfl ⟨⟨rfl, by decide, by decide⟩, rfl⟩ (fun w h Y => PySem.W.kIn_of Y) ?F (fun _ H a ns hl hO hS => Ev.law_sp hO hS (Ev.main ns hl))
  case F =>
    intro w mg fa h KX G hmg
    refine' Ev.all_mk KX G hmg ?aC0 ?kC0 ?pg0 ?hd0 ?po0 ?sa0 ?mk0 ?na0_held ?na0_leaves ?na0_room ?na0_rows ?na0_worth ?a1 ?l1 ?c1 ?k1 ?a2 ?l2 ?c2 ?k2 ?a3 ?l3 ?c3 ?k3 ?a4 ?l4 ?c4 ?k4 ?a5 ?l5 ?c5 ?k5 ?a6 ?l6 ?c6 ?k6 ?a7 ?l7 ?c7 ?k7 ?a8 ?l8 ?c8 ?k8 ?a9 ?l9 ?c9 ?k9 ?a10 ?l10 ?c10 ?k10 ?a11 ?l11 ?c11 ?k11 ?a12 ?l12 ?c12 ?k12 ?kd12_room ?a13 ?l13 ?c13 ?k13 ?a14 ?l14 ?c14 ?k14 ?a15 ?l15 ?c15 ?k15 ?a16 ?l16 ?c16 ?k16 ?a17 ?l17 ?c17 ?k17 ?a18 ?l18 ?c18 ?k18 ?a19 ?l19 ?c19 ?k19 ?a20 ?i20 ?l20 ?c20 ?k20 ?a21 ?i21 ?l21 ?c21 ?k21 ?a22 ?i22 ?l22 ?c22 ?k22 ?a23 ?i23 ?l23 ?c23 ?k23 ?z1 ?z2 ?z3 ?z4 ?z5 ?z6 ?z7 ?z8 ?z9 ?z10 ?z11 ?z12 ?z13 ?z14 ?z15 ?z16 ?z17 ?z18
    (case aC0 => k_is); (case kC0 => k_is); (case pg0 => k_is); (case hd0 => k_is); (case po0 => k_is); (case sa0 => k_is); (case mk0 => k_is); (case na0_held => k_is); (case na0_leaves => k_is); (case na0_room => k_is); (case na0_rows => k_is); (case na0_worth => k_is); (case a1 => k_is); (case l1 => k_is); (case c1 => k_is); (case k1 => k_is); (case a2 => k_is); (case l2 => k_is); (case c2 => k_is); (case k2 => k_is); (case a3 => k_is); (case l3 => k_is); (case c3 => k_is); (case k3 => k_is); (case a4 => k_is); (case l4 => k_is); (case c4 => k_is); (case k4 => k_is); (case a5 => k_is); (case l5 => k_is); (case c5 => k_is); (case k5 => k_is); (case a6 => k_is); (case l6 => k_is); (case c6 => k_is); (case k6 => k_is); (case a7 => k_is); (case l7 => k_is); (case c7 => k_is); (case k7 => k_is); (case a8 => k_is); (case l8 => k_is); (case c8 => k_is); (case k8 => k_is); (case a9 => k_is); (case l9 => k_is); (case c9 => k_is); (case k9 => k_is); (case a10 => k_is); (case l10 => k_is); (case c10 => k_is); (case k10 => k_is); (case a11 => k_is); (case l11 => k_is); (case c11 => k_is); (case k11 => k_is); (case a12 => k_is); (case l12 => k_is); (case c12 => k_is); (case k12 => k_is); (case kd12_room => k_is); (case a13 => k_is); (case l13 => k_is); (case c13 => k_is); (case k13 => k_is); (case a14 => k_is); (case l14 => k_is); (case c14 => k_is); (case k14 => k_is); (case a15 => k_is); (case l15 => k_is); (case c15 => k_is); (case k15 => k_is); (case a16 => k_is); (case l16 => k_is); (case c16 => k_is); (case k16 => k_is); (case a17 => k_is); (case l17 => k_is); (case c17 => k_is); (case k17 => k_is); (case a18 => k_is); (case l18 => k_is); (case c18 => k_is); (case k18 => k_is); (case a19 => k_is); (case l19 => k_is); (case c19 => k_is); (case k19 => k_is); (case a20 => k_is); (case i20 => k_is); (case l20 => k_is); (case c20 => k_is); (case k20 => k_is); (case a21 => k_is); (case i21 => k_is); (case l21 => k_is); (case c21 => k_is); (case k21 => k_is); (case a22 => k_is); (case i22 => k_is); (case l22 => k_is); (case c22 => k_is); (case k22 => k_is); (case a23 => k_is); (case i23 => k_is); (case l23 => k_is); (case c23 => k_is); (case k23 => k_is); (case z1 => k_is); (case z2 => k_is); (case z3 => k_is); (case z4 => k_is); (case z5 => k_is); (case z6 => k_is); (case z7 => k_is); (case z8 => k_is); (case z9 => k_is); (case z10 => k_is); (case z11 => k_is); (case z12 => k_is); (case z13 => k_is); (case z14 => k_is); (case z15 => k_is); (case z16 => k_is); (case z17 => k_is); (case z18 => k_is)
