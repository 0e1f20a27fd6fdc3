import PyProof.Rows.All
import Wide.All
import OpenK.AllK
import Wide.FinOn
import HandS.ForMost
import HandS.Wide
import HandS.IsInst
import HandS.ExcInit
import HandS.ExcValue
import HandS.Zip
import HandS.TupAny
import HandS.Style
import KE.DataEq
import HandS.TupMul
import PyProof.NeKinds
import HandS.RaiseMore
import HandS.Defaults
import HandS.StrMore
import KE.GoesMore
import KE.KIntText
import PyProof.Rows.StrCut
import HandS.FStrTup
import PyProof.Rows.ReprR
import KE.KUnpackStar
import PyProof.AutoListH
import PyProof.Rows.SetFrom
import HandS.Strs
import PyProof.Rows.MinMaxGenD
import HandS.SortKw
import HandS.Set
import HandS.Sort
import HandS.SetFor
import PyProof.Rows.SortShellAny
import HandS.FStr
import HandS.Text
import HandS.ReplaceLit
import HandS.ReplaceList
import HandS.SetBool
import HandS.DictComp
import PyProof.ZipIter
import KE.KDictZip
import HandS.Zip0
import HandS.ExcCtx
import HandS.WordsExc
import HandS.Finally
import HandS.SuiteRaise
import KE.KExcRaise
import HandS.ClsMeth
import HandS.ExcField
import HandS.ExcIs
import KE.KExcIs
import KE.KDictPairs
import HandS.MakeKwOnly
import KE.SortData
import KE.DataCmp
import KE.DataFind
import PyProof.FactsAll.dict
import PyProof.EqKinds
import PyProof.DictUpdate
import HandS.TupLen
import HandS.SetKeys
import PyProof.DictMoreH
import PyProof.DictValues
import HandS.Conv
import KE.KDictList
import HandS.ReplaceDef
import PySem.Challenge.RW_callmelt_k21_trees_shown_and_read
set_option Elab.async false
set_option linter.all false
set_option maxRecDepth 100000
set_option backward.match.sparseCases false
namespace Ev
open PySem PySem.Spec L2
open PyProof.Rows hiding St

/-- frozen data -/
inductive D where
  | non | bl (b : Bool) | int (i : Int) | str (x : Str) | tup (xs : List D) | lst (xs : List D)
  | dk (kvs : List (Key × D))
  | dt (kvs : List (List Key × D))
  | obj (c : Str) (fs : List (Str × D))
  | fn (x : Str)
  /-- a text's own tuple, to be gone through alone -/
  | ctp (xs : List D)
  /-- an exception, made and not raised -/
  | xo (c : Str) (fs : List (Str × D))
  | ty (n : String)
  | scr (xs : List D)
  /-- any object: nothing is known of it -/
  | any
  /-- a dict of which nothing more is known -/
  | odk
/-- an exception: its class, its fields -/
structure Exn where
  cls : Str
  fs : List (Str × D)
/-- a thing that its place owns, or frozen data; seq, box, ob: a list, a tuple, an object of owned things; exn: the exception that is handled -/
inductive M where
  | d (x : D)
  | lst (xs : List D)
  | dk (kvs : List (Key × D))
  | dt (kvs : List (List Key × D))
  | seq (xs : List M)
  | box (xs : List M)
  | ob (c : Str) (ns : List Str) (ms : List M)
  | exn (x : Exn)
mutual
noncomputable def M.toD : M → D
  | .d x => x
  | .lst xs => .lst xs
  | .dk kvs => .dk kvs
  | .dt kvs => .dt kvs
  | .seq xs => .lst (M.toDs xs)
  | .box xs => .tup (M.toDs xs)
  | .ob c ns ms => .obj c (ns.zip (M.toDs ms))
  | .exn _ => .any
noncomputable def M.toDs : List M → List D
  | [] => []
  | m :: ms => m.toD :: M.toDs ms
end
/-- what may be read of it without a look at its owned parts -/
noncomputable def M.vw : M → Option D
  | .d x => some x
  | .lst xs => some (.lst xs)
  | .dk kvs => some (.dk kvs)
  | .dt kvs => some (.dt kvs)
  | _ => none
noncomputable abbrev SS := List (Option M)
inductive R (α : Type) where
  | ok (a : α) (S : SS)
  | ex (x : Exn) (S : SS)
  | no
/-- a mark that keeps simp from going into what is still to come -/
structure Ph.{u} {α : Sort u} (a : α) : Type where
  mk ::
noncomputable def R.bind {α β : Type} (r : R α) (g : α → SS → R β) (_ : Ph g := ⟨⟩) : R β := match r with
  | .ok a S => g a S
  | .ex x S => .ex x S
  | .no => .no
/-- an operand: a value, or a name's slot -/
inductive Ov where
  | d (x : D)
  | j (i : Nat)
noncomputable def SS.at (S : SS) (i : Nat) : Option M := (S[i]?).join
noncomputable def Ov.get : Ov → SS → Option D
  | .d x, _ => some x
  | .j i, S => (S.at i).bind M.vw
/-- the text's objects, which class has which name, the exception that is handled (its object's place, class, dict) -/
structure KG where
  k : PySem.W.Frag
  cl : Str → Option Addr
  xn : Option (Addr × Value × Option Addr)
instance : CoeOut KG PySem.W.Frag := ⟨KG.k⟩

noncomputable def D.isS : D → Bool
  | .str _ => true
  | _ => false
/-- a tuple of one's own, or one of the text's, which are of texts alone -/
noncomputable def TqT (K : KG) (F : Hp) (a : Addr) (vs : List V) (ds : List D) : Prop := F a = some (.tup vs) ∨ (SqT K F a vs ∧ ds.all D.isS = true ∧ ds ≠ [])
theorem TqT.sq {K : KG} {F : Hp} {a : Addr} {vs : List V} {ds : List D} (h : TqT K F a vs ds) : SqT K F a vs := by
  rcases h with h | h
  · exact .inl (.inl h)
  · exact h.1
/-- there stands an exception of this class, its fields -/
noncomputable def XoT (F : Hp) (a C : Addr) (ns : List Str) (vs : List V) : Prop := (F a = some (ExO (.ref C) a) ∧ ns = []) ∨ ∃ d, F a = some (exo a C (some d)) ∧ F d = some (exd d (ns.zip vs))
/-- there stands a dict -/
noncomputable def isDct (a : Addr) : Heap → Prop := fun h => ∃ o, h.get? a = some o ∧ o.cls = .type "dict"
mutual
inductive RepD (K : KG) (F : Hp) : V → D → Prop
  | non : RepD K F .non .non
  | bl (b : Bool) : RepD K F (.bl b) (.bl b)
  | int (i : Int) : RepD K F (.int i) (.int i)
  | str (x : Str) : RepD K F (.str x) (.str x)
  | tup {a : Addr} {vs : List V} {ds : List D} : TqT K F a vs ds → RepDs K F vs ds → RepD K F (.ref a) (.tup ds)
  | lst {a : Addr} {vs : List V} {ds : List D} : Rd F a (.lst vs) → RepDs K F vs ds → RepD K F (.ref a) (.lst ds)
  | ty (n : String) : RepD K F (.ty n) (.ty n)
  | scr {a : Addr} {vs : List V} {ds : List D} : SqL K F a vs → RepDs K F vs ds → RepD K F (.ref a) (.scr ds)
  | dk {a : Addr} {ks : List Key} {vs : List V} {ds : List D} : Rd F a (.dK (ks.zip vs)) → ks.length = vs.length → RepDs K F vs ds → RepD K F (.ref a) (.dk (ks.zip ds))
  | dt {a : Addr} {ks : List (List Key)} {vs : List V} {ds : List D} : F a = some (.dT (ks.zip vs)) → ks.length = vs.length → RepDs K F vs ds → RepD K F (.ref a) (.dt (ks.zip ds))
  | obj {a C dx : Addr} {c : Str} {ns : List Str} {vs : List V} {ds : List D} : K.cl c = some C → F a = some (.ins C dx (ns.zip vs)) → ns.length = vs.length → RepDs K F vs ds → RepD K F (.ref a) (.obj c (ns.zip ds))
  | any (a : Addr) : RepD K F (.ref a) .any
  | odk {a : Addr} : F a = some (.ext (isDct a)) → RepD K F (.ref a) .odk
  | fn {a : Addr} {x : Str} : K.cl x = some a → RepD K F (.ref a) (.fn x)
  | ctp {a : Addr} {vs : List V} {ds : List D} : SqT K F a vs → RepDs K F vs ds → RepD K F (.ref a) (.ctp ds)
  | xo {a C : Addr} {c : Str} {ns : List Str} {vs : List V} {ds : List D} : K.cl c = some C → XoT F a C ns vs → ns.length = vs.length → RepDs K F vs ds → RepD K F (.ref a) (.xo c (ns.zip ds))
inductive RepDs (K : KG) (F : Hp) : List V → List D → Prop
  | nil : RepDs K F [] []
  | cons {v : V} {vs : List V} {d : D} {ds : List D} : RepD K F v d → RepDs K F vs ds → RepDs K F (v :: vs) (d :: ds)
end

/-- F is kept in F' -/
noncomputable def Le (F F' : Hp) : Prop := ∀ a o, F a = some o → F' a = some o
theorem Le.refl (F : Hp) : Le F F := fun _ _ h => h
theorem Le.trans {F F1 F2 : Hp} (a : Le F F1) (b : Le F1 F2) : Le F F2 := fun x o h => b x o (a x o h)
theorem Le.rd {F F' : Hp} (l : Le F F') {a : Addr} {u : HO} (h : Rd F a u) : Rd F' a u := by
  rcases h with h | ⟨o, h⟩
  · exact .inl (l _ _ h)
  · exact .inr ⟨o, l _ _ h⟩
theorem Le.sl {K : KG} {F F' : Hp} (l : Le F F') {a : Addr} {xs : List V} (h : SqL K F a xs) : SqL K F' a xs := by
  rcases h with h | h
  · exact .inl (l.rd h)
  · exact .inr h
theorem Le.st {K : KG} {F F' : Hp} (l : Le F F') {a : Addr} {xs : List V} (h : SqT K F a xs) : SqT K F' a xs := by
  rcases h with h | h
  · exact .inl (l.rd h)
  · exact .inr h
theorem Le.tq {K : KG} {F F' : Hp} (l : Le F F') {a : Addr} {xs : List V} {ds : List D} (h : TqT K F a xs ds) : TqT K F' a xs ds := by
  rcases h with h | h
  · exact .inl (l _ _ h)
  · exact .inr ⟨l.st h.1, h.2⟩
mutual
theorem RepD.mono {K : KG} {F F' : Hp} (l : Le F F') : ∀ {v : V} {d : D}, RepD K F v d → RepD K F' v d
  | _, _, .non => .non
  | _, _, .bl b => .bl b
  | _, _, .int b => .int b
  | _, _, .str b => .str b
  | _, _, .tup h r => .tup (l.tq h) (RepDs.mono l r)
  | _, _, .lst h r => .lst (l.rd h) (RepDs.mono l r)
  | _, _, .ty n => .ty n
  | _, _, .scr h r => .scr (l.sl h) (RepDs.mono l r)
  | _, _, .dk h e r => .dk (l.rd h) e (RepDs.mono l r)
  | _, _, .dt h e r => .dt (l _ _ h) e (RepDs.mono l r)
  | _, _, .obj c h e r => .obj c (l _ _ h) e (RepDs.mono l r)
  | _, _, .any a => .any a
  | _, _, .odk h => .odk (l _ _ h)
  | _, _, .fn h => .fn h
  | _, _, .ctp h r => .ctp (l.st h) (RepDs.mono l r)
  | _, _, .xo c h e r => .xo c (h.imp (fun h => ⟨l _ _ h.1, h.2⟩) fun ⟨d, h1, h2⟩ => ⟨d, l _ _ h1, l _ _ h2⟩) e (RepDs.mono l r)
theorem RepDs.mono {K : KG} {F F' : Hp} (l : Le F F') : ∀ {v : List V} {d : List D}, RepDs K F v d → RepDs K F' v d
  | _, _, .nil => .nil
  | _, _, .cons h r => .cons (RepD.mono l h) (RepDs.mono l r)
end
mutual
/-- frozen data do not look at the exception that is handled -/
theorem RepD.cx {K K' : KG} {F : Hp} (h1 : K.k = K'.k) (h2 : K.cl = K'.cl) : ∀ {v : V} {d : D}, RepD K F v d → RepD K' F v d
  | _, _, .non => .non
  | _, _, .bl b => .bl b
  | _, _, .int b => .int b
  | _, _, .str b => .str b
  | _, _, .tup h r => .tup (h.elim .inl fun h => .inr ⟨h1 ▸ h.1, h.2⟩) (RepDs.cx h1 h2 r)
  | _, _, .lst h r => .lst h (RepDs.cx h1 h2 r)
  | _, _, .ty n => .ty n
  | _, _, .scr h r => .scr (h1 ▸ h) (RepDs.cx h1 h2 r)
  | _, _, .dk h e r => .dk h e (RepDs.cx h1 h2 r)
  | _, _, .dt h e r => .dt h e (RepDs.cx h1 h2 r)
  | _, _, .obj c h e r => .obj (h2 ▸ c) h e (RepDs.cx h1 h2 r)
  | _, _, .any v => .any v
  | _, _, .odk h => .odk h
  | _, _, .fn h => .fn (h2 ▸ h)
  | _, _, .ctp h r => .ctp (h1 ▸ h) (RepDs.cx h1 h2 r)
  | _, _, .xo c h e r => .xo (h2 ▸ c) h e (RepDs.cx h1 h2 r)
theorem RepDs.cx {K K' : KG} {F : Hp} (h1 : K.k = K'.k) (h2 : K.cl = K'.cl) : ∀ {v : List V} {d : List D}, RepDs K F v d → RepDs K' F v d
  | _, _, .nil => .nil
  | _, _, .cons h r => .cons (RepD.cx h1 h2 h) (RepDs.cx h1 h2 r)
end
theorem RepDs.len {K : KG} {F : Hp} : ∀ {v : List V} {d : List D}, RepDs K F v d → v.length = d.length
  | _, _, .nil => rfl
  | _, _, .cons _ r => congrArg (· + 1) (RepDs.len r)
theorem RepDs.get {K : KG} {F : Hp} : ∀ {v : List V} {d : List D} {i : Nat} {x : D}, RepDs K F v d → d[i]? = some x → ∃ u, v[i]? = some u ∧ RepD K F u x
  | _, _, _, _, .nil, e => by simp at e
  | _, _, 0, _, .cons h r, e => by simp at e; subst e; exact ⟨_, rfl, h⟩
  | _, _, i + 1, x, .cons _ r, e => by
    obtain ⟨u, h1, h2⟩ := RepDs.get (i := i) (x := x) r (by simpa using e)
    exact ⟨u, by simpa using h1, h2⟩
theorem RepDs.getV {K : KG} {F : Hp} : ∀ {v : List V} {d : List D} {i : Nat} {x : V}, RepDs K F v d → v[i]? = some x → ∃ u, d[i]? = some u ∧ RepD K F x u
  | _, _, _, _, .nil, e => by simp at e
  | _, _, 0, _, .cons h r, e => by simp at e; subst e; exact ⟨_, rfl, h⟩
  | _, _, i + 1, x, .cons _ r, e => by
    obtain ⟨u, h1, h2⟩ := RepDs.getV (i := i) (x := x) r (by simpa using e)
    exact ⟨u, by simpa using h1, h2⟩
theorem RepDs.append {K : KG} {F : Hp} : ∀ {v v' : List V} {d d' : List D}, RepDs K F v d → RepDs K F v' d' → RepDs K F (v ++ v') (d ++ d')
  | _, _, _, _, .nil, s => s
  | _, _, _, _, .cons h r, s => .cons h (RepDs.append r s)
theorem RepDs.set {K : KG} {F : Hp} {x : V} {y : D} (h : RepD K F x y) : ∀ {v : List V} {d : List D} (i : Nat), RepDs K F v d → RepDs K F (v.set i x) (d.set i y)
  | _, _, _, .nil => .nil
  | _, _, 0, .cons _ r => .cons h r
  | _, _, i + 1, .cons q r => .cons q (RepDs.set h i r)
theorem RepDs.take {K : KG} {F : Hp} : ∀ {v : List V} {d : List D} (n : Nat), RepDs K F v d → RepDs K F (v.take n) (d.take n)
  | _, _, 0, _ => .nil
  | _, _, _ + 1, .nil => .nil
  | _, _, n + 1, .cons h r => .cons h (RepDs.take n r)
theorem RepDs.drop {K : KG} {F : Hp} : ∀ {v : List V} {d : List D} (n : Nat), RepDs K F v d → RepDs K F (v.drop n) (d.drop n)
  | _, _, 0, r => r
  | _, _, _ + 1, .nil => .nil
  | _, _, n + 1, .cons h r => RepDs.drop n r
theorem RepDs.dropLast {K : KG} {F : Hp} {v : List V} {d : List D} (h : RepDs K F v d) : RepDs K F v.dropLast d.dropLast := by
  rw [List.dropLast_eq_take, List.dropLast_eq_take, h.len]
  exact h.take _
theorem RepDs.snoc {K : KG} {F : Hp} {v : List V} {d : List D} {x : V} {y : D} (h : RepDs K F v d) (r : RepD K F x y) : RepDs K F (v ++ [x]) (d ++ [y]) := h.append (.cons r .nil)
theorem RepDs.reverse {K : KG} {F : Hp} : ∀ {v : List V} {d : List D}, RepDs K F v d → RepDs K F v.reverse d.reverse
  | _, _, .nil => .nil
  | _, _, .cons h r => by
    rw [List.reverse_cons, List.reverse_cons]
    exact (RepDs.reverse r).snoc h

/-- an exception of this class and dict is x -/
noncomputable def RepX (K : KG) (F : Hp) (x : Exn) (cls : Value) (d : Option Addr) : Prop :=
  ∃ C, K.cl x.cls = some C ∧ cls = .ref C ∧ (x.fs = [] ∧ d = none ∨ ∃ (dd : Addr) (ns : List Str) (vs : List V) (ds : List D), d = some dd ∧ F dd = some (.xd (ns.zip vs)) ∧ ns.length = vs.length ∧ RepDs K F vs ds ∧ x.fs = ns.zip ds)
theorem RepX.mono {K : KG} {F F' : Hp} (l : Le F F') {x : Exn} {cls : Value} {d : Option Addr} (h : RepX K F x cls d) : RepX K F' x cls d := by
  obtain ⟨C, h1, h2, h3⟩ := h
  refine ⟨C, h1, h2, ?_⟩
  rcases h3 with h3 | ⟨dd, ns, vs, ds, e1, e2, e3, e4, e5⟩
  · exact .inl h3
  · exact .inr ⟨dd, ns, vs, ds, e1, l _ _ e2, e3, e4.mono l, e5⟩

/-! ### places -/
inductive Rt where
  | s (i : Nat) | r
  deriving DecidableEq
noncomputable abbrev Pl := Rt × List Nat
noncomputable abbrev OW := Addr → Option Pl
structure Bs (H F : Hp) (O : OW) : Prop where
  fh : Le F H
  fo : ∀ a q, O a = some q → F a = none ∧ ∃ o, H a = some o
structure Stp (H F : Hp) (O : OW) (H' F' : Hp) (O' : OW) : Prop where
  ff : Le F F'
  kp : ∀ a o, H a = some o → O a = none → H' a = some o
  nw : ∀ a q, O' a = some q → (∃ q', O a = some q') ∨ H a = none
  fz : ∀ a o, F' a = some o → F a = some o ∨ (∃ q, O a = some q) ∨ H a = none
  al : ∀ a o, H a = some o → ∃ o', H' a = some o'
theorem Stp.refl (H F : Hp) (O : OW) : Stp H F O H F O := ⟨Le.refl _, fun _ _ h _ => h, fun _ _ h => .inl ⟨_, h⟩, fun _ _ h => .inl h, fun _ o h => ⟨o, h⟩⟩
theorem Stp.trans {H F H1 F1 H2 F2 : Hp} {O O1 O2 : OW} (a : Stp H F O H1 F1 O1) (b : Stp H1 F1 O1 H2 F2 O2) : Stp H F O H2 F2 O2 := by
  have back : ∀ x, (∃ q', O1 x = some q') ∨ H1 x = none → (∃ q', O x = some q') ∨ H x = none := fun x h => by
    rcases h with ⟨q', h⟩ | h
    · exact a.nw x q' h
    · cases e : O x with
      | some q => exact .inl ⟨q, rfl⟩
      | none =>
        refine .inr ?_
        cases e2 : H x with
        | none => rfl
        | some o => rw [a.kp x o e2 e] at h; cases h
  refine ⟨a.ff.trans b.ff, fun x o h e => ?_, fun x q h => back x (b.nw x q h), fun x o h => ?_, fun x o h => let ⟨o1, h1⟩ := a.al x o h; b.al x o1 h1⟩
  · refine b.kp x o (a.kp x o h e) ?_
    cases e1 : O1 x with
    | none => rfl
    | some q =>
      rcases a.nw x q e1 with ⟨q', h'⟩ | h'
      · rw [e] at h'; cases h'
      · rw [h] at h'; cases h'
  · rcases b.fz x o h with h | h
    · exact a.fz x o h
    · exact .inr (back x h)

mutual
noncomputable def RepM (K : KG) (H F : Hp) (O : OW) : Pl → V → M → Prop
  | _, v, .d x => RepD K F v x
  | q, v, .lst ds => ∃ (a : Addr) (vs : List V), v = .ref a ∧ O a = some q ∧ H a = some (.lst vs) ∧ RepDs K F vs ds
  | q, v, .dk kd => ∃ (a : Addr) (ks : List Key) (vs : List V) (ds : List D), v = .ref a ∧ O a = some q ∧ H a = some (.dK (ks.zip vs)) ∧ ks.length = vs.length ∧ RepDs K F vs ds ∧ kd = ks.zip ds
  | q, v, .dt kd => ∃ (a : Addr) (ks : List (List Key)) (vs : List V) (ds : List D), v = .ref a ∧ O a = some q ∧ H a = some (.dT (ks.zip vs)) ∧ ks.length = vs.length ∧ RepDs K F vs ds ∧ kd = ks.zip ds
  | q, v, .seq ms => ∃ (a : Addr) (vs : List V), v = .ref a ∧ O a = some q ∧ H a = some (.lst vs) ∧ RepMs K H F O q 0 vs ms
  | q, v, .box ms => ∃ (a : Addr) (vs : List V), v = .ref a ∧ F a = some (.tup vs) ∧ RepMs K H F O q 0 vs ms
  | q, v, .ob c ns ms => ∃ (a C dx : Addr) (vs : List V), v = .ref a ∧ O a = some q ∧ K.cl c = some C ∧ H a = some (.ins C dx (ns.zip vs)) ∧ ns.length = vs.length ∧ RepMs K H F O q 0 vs ms
  | _, v, .exn x => ∃ a cls d, K.xn = some (a, cls, d) ∧ v = .ref a ∧ RepX K F x cls d
noncomputable def RepMs (K : KG) (H F : Hp) (O : OW) : Pl → Nat → List V → List M → Prop
  | _, _, vs, [] => vs = []
  | q, k, vs, m :: ms => ∃ v vs', vs = v :: vs' ∧ RepM K H F O (q.1, q.2 ++ [k]) v m ∧ RepMs K H F O q (k + 1) vs' ms
end
structure Rp (K : KG) (H F : Hp) (O : OW) (σ : St) (S : SS) : Prop where
  bs : Bs H F O
  len : S.length = σ.length
  sl : ∀ i m, S.at i = some m → ∃ v, σ[i]? = some (some v) ∧ RepM K H F O (.s i, []) v m

mutual
/-- the same at another root -/
theorem RepM.move {K : KG} {H F H' F' : Hp} {O O' : OW} {z z' : Rt} (ff : Le F F') (k : ∀ a o p, O a = some (z, p) → H a = some o → H' a = some o ∧ O' a = some (z', p)) : ∀ {m : M} {p : List Nat} {v : V}, RepM K H F O (z, p) v m → RepM K H' F' O' (z', p) v m
  | .d x, p, v, h => RepD.mono ff h
  | .lst ds, p, v, h => by
    obtain ⟨a, vs, e, ho, hh, r⟩ := h
    obtain ⟨k1, k2⟩ := k a _ p ho hh
    exact ⟨a, vs, e, k2, k1, r.mono ff⟩
  | .dk kd, p, v, h => by
    obtain ⟨a, ks, vs, ds, e, ho, hh, el, r, ek⟩ := h
    obtain ⟨k1, k2⟩ := k a _ p ho hh
    exact ⟨a, ks, vs, ds, e, k2, k1, el, r.mono ff, ek⟩
  | .dt kd, p, v, h => by
    obtain ⟨a, ks, vs, ds, e, ho, hh, el, r, ek⟩ := h
    obtain ⟨k1, k2⟩ := k a _ p ho hh
    exact ⟨a, ks, vs, ds, e, k2, k1, el, r.mono ff, ek⟩
  | .seq ms, p, v, h => by
    obtain ⟨a, vs, e, ho, hh, r⟩ := h
    obtain ⟨k1, k2⟩ := k a _ p ho hh
    exact ⟨a, vs, e, k2, k1, RepMs.move ff k r⟩
  | .box ms, p, v, h => by
    obtain ⟨a, vs, e, ht, r⟩ := h
    exact ⟨a, vs, e, ff _ _ ht, RepMs.move ff k r⟩
  | .ob c ns ms, p, v, h => by
    obtain ⟨a, C, dx, vs, e, ho, hc, hh, el, r⟩ := h
    obtain ⟨k1, k2⟩ := k a _ p ho hh
    exact ⟨a, C, dx, vs, e, k2, hc, k1, el, RepMs.move ff k r⟩
  | .exn x, p, v, h => by
    obtain ⟨a, cls, d, e1, e2, r⟩ := h
    exact ⟨a, cls, d, e1, e2, r.mono ff⟩
theorem RepMs.move {K : KG} {H F H' F' : Hp} {O O' : OW} {z z' : Rt} (ff : Le F F') (k : ∀ a o p, O a = some (z, p) → H a = some o → H' a = some o ∧ O' a = some (z', p)) : ∀ {ms : List M} {p : List Nat} {n : Nat} {vs : List V}, RepMs K H F O (z, p) n vs ms → RepMs K H' F' O' (z', p) n vs ms
  | [], p, n, vs, h => h
  | m :: ms, p, n, vs, h => by
    obtain ⟨v, vs', e, h1, h2⟩ := h
    exact ⟨v, vs', e, RepM.move ff k h1, RepMs.move ff k h2⟩
end
/-- what is at a place stays -/
theorem RepM.stay {K : KG} {H F H' F' : Hp} {O O' : OW} {q : Pl} {v : V} {m : M} (h : RepM K H F O q v m) (ff : Le F F') (k : ∀ a o p, O a = some (q.1, p) → H a = some o → H' a = some o ∧ O' a = some (q.1, p)) : RepM K H' F' O' q v m :=
  RepM.move (z := q.1) (z' := q.1) (p := q.2) ff k h
theorem RepMs.len {K : KG} {H F : Hp} {O : OW} {q : Pl} : ∀ {ms : List M} {k : Nat} {vs : List V}, RepMs K H F O q k vs ms → vs.length = ms.length
  | [], k, vs, h => by rw [show vs = [] from h]; rfl
  | m :: ms, k, vs, h => by
    obtain ⟨v, vs', e, _, h2⟩ := h
    rw [e, List.length_cons, List.length_cons, RepMs.len h2]

/-! ### views: what may be read now -/
inductive View (K : KG) (H F : Hp) : V → D → Prop
  | fz {v : V} {d : D} : RepD K F v d → View K H F v d
  | lst {a : Addr} {vs : List V} {ds : List D} : H a = some (.lst vs) → RepDs K F vs ds → View K H F (.ref a) (.lst ds)
  | dk {a : Addr} {ks : List Key} {vs : List V} {ds : List D} : H a = some (.dK (ks.zip vs)) → ks.length = vs.length → RepDs K F vs ds → View K H F (.ref a) (.dk (ks.zip ds))
  | dt {a : Addr} {ks : List (List Key)} {vs : List V} {ds : List D} : H a = some (.dT (ks.zip vs)) → ks.length = vs.length → RepDs K F vs ds → View K H F (.ref a) (.dt (ks.zip ds))
theorem RepM.view {K : KG} {H F : Hp} {O : OW} {q : Pl} {v : V} {m : M} {d : D} (h : RepM K H F O q v m) (hd : m.vw = some d) : View K H F v d := by
  cases m with
  | d x => cases hd; exact .fz h
  | lst ds =>
    cases hd
    obtain ⟨a, vs, e, ho, hh, r⟩ := h
    subst e
    exact .lst hh r
  | dk kd =>
    cases hd
    obtain ⟨a, ks, vs, ds, e, ho, hh, el, r, ek⟩ := h
    subst e ek
    exact .dk hh el r
  | dt kd =>
    cases hd
    obtain ⟨a, ks, vs, ds, e, ho, hh, el, r, ek⟩ := h
    subst e ek
    exact .dt hh el r
  | seq _ => cases hd
  | box _ => cases hd
  | ob _ _ _ => cases hd
  | exn _ => cases hd
section
variable {K : KG} {H F : Hp} {v : V}
theorem View.int {i : Int} (h : View K H F v (.int i)) : v = .int i := by
  cases h with
  | fz h => cases h; rfl
theorem View.bl {i : Bool} (h : View K H F v (.bl i)) : v = .bl i := by
  cases h with
  | fz h => cases h; rfl
theorem View.str {i : Str} (h : View K H F v (.str i)) : v = .str i := by
  cases h with
  | fz h => cases h; rfl
theorem View.non (h : View K H F v .non) : v = .non := by
  cases h with
  | fz h => cases h; rfl
theorem View.scr {ds : List D} (l : Le F H) (h : View K H F v (.scr ds)) : ∃ a vs, v = .ref a ∧ SqL K H a vs ∧ RepDs K F vs ds := by
  cases h with
  | fz h => cases h with | scr h r => exact ⟨_, _, rfl, l.sl h, r⟩
theorem View.ty {i : String} (h : View K H F v (.ty i)) : v = .ty i := by
  cases h with
  | fz h => cases h; rfl
theorem View.list {ds : List D} (l : Le F H) (h : View K H F v (.lst ds)) : ∃ a vs, v = .ref a ∧ Rd H a (.lst vs) ∧ RepDs K F vs ds := by
  cases h with
  | fz h => cases h with | lst h r => exact ⟨_, _, rfl, l.rd h, r⟩
  | lst h r => exact ⟨_, _, rfl, .inl h, r⟩
theorem View.tuple {ds : List D} (l : Le F H) (h : View K H F v (.tup ds)) : ∃ a vs, v = .ref a ∧ SqT K H a vs ∧ RepDs K F vs ds := by
  cases h with
  | fz h => cases h with | tup h r => exact ⟨_, _, rfl, l.st h.sq, r⟩
end
/-- an operand stands for v -/
noncomputable def RepOv (K : KG) (F : Hp) (σ : St) (v : V) : Ov → Prop
  | .d x => RepD K F v x
  | .j i => σ[i]? = some (some v)
theorem RepOv.mono {K : KG} {F F' : Hp} {σ : St} {v : V} {o : Ov} (l : Le F F') (h : RepOv K F σ v o) : RepOv K F' σ v o := by
  cases o with
  | d x => exact RepD.mono l h
  | j i => exact h
theorem Rp.view {K : KG} {H F : Hp} {O : OW} {σ : St} {S : SS} {v : V} {o : Ov} {d : D} (r : Rp K H F O σ S) (h : RepOv K F σ v o) (e : o.get S = some d) : View K H F v d := by
  cases o with
  | d x =>
    cases e
    exact .fz h
  | j i =>
    have e : (S.at i).bind M.vw = some d := e
    cases e2 : S.at i with
    | none => rw [e2] at e; cases e
    | some m =>
      rw [e2] at e
      have e : m.vw = some d := e
      obtain ⟨w, hw, rm⟩ := r.sl i m e2
      have z : σ[i]? = some (some v) := h
      rw [hw] at z
      cases z
      exact rm.view e

/-! ### freezing a root -/
noncomputable def frzF (q : Rt) (H F : Hp) (O : OW) : Hp := fun a => match O a with
  | some (q', _) => if q' = q then H a else F a
  | none => F a
noncomputable def frzO (q : Rt) (O : OW) : OW := fun a => match O a with
  | some (q', p) => if q' = q then none else some (q', p)
  | none => none
section
variable {K : KG} {H F : Hp} {O : OW} {q : Rt}
theorem frz_bs (b : Bs H F O) : Bs H (frzF q H F O) (frzO q O) := by
  refine ⟨fun a o h => ?_, fun a p h => ?_⟩
  · unfold frzF at h
    cases e : O a with
    | none => rw [e] at h; exact b.fh a o h
    | some z =>
      rw [e] at h
      dsimp only at h
      split at h
      · exact h
      · exact b.fh a o h
  · unfold frzO at h
    unfold frzF
    cases e : O a with
    | none => rw [e] at h; cases h
    | some z =>
      rw [e] at h
      dsimp only at h ⊢
      split at h
      · cases h
      · rename_i ne
        rw [if_neg ne]
        exact b.fo a _ e
theorem frz_stp (b : Bs H F O) : Stp H F O H (frzF q H F O) (frzO q O) := by
  refine ⟨fun a o h => ?_, fun a o h _ => h, fun a p h => ?_, fun a o h => ?_, fun _ o h => ⟨o, h⟩⟩
  · unfold frzF
    cases e : O a with
    | none => exact h
    | some z =>
      have := (b.fo a z e).1
      rw [h] at this
      cases this
  · unfold frzO at h
    cases e : O a with
    | none => rw [e] at h; cases h
    | some z => exact .inl ⟨z, rfl⟩
  · unfold frzF at h
    cases e : O a with
    | none => rw [e] at h; exact .inl h
    | some z => exact .inr (.inl ⟨z, rfl⟩)
theorem frz_other {q' : Rt} {p : List Nat} {v : V} {m : M} (b : Bs H F O) (h : RepM K H F O (q', p) v m) (ne : q' ≠ q) : RepM K H (frzF q H F O) (frzO q O) (q', p) v m :=
  h.stay (frz_stp b).ff fun a o p e1 e2 => ⟨e2, by unfold frzO; rw [e1]; dsimp only; rw [if_neg ne]⟩
mutual
/-- frozen, and what is read is now frozen -/
theorem frzm {H F F' : Hp} {O : OW} {q : Rt} (ff : Le F F') (k : ∀ a o p, O a = some (q, p) → H a = some o → F' a = some o) : ∀ {m : M} {p : List Nat} {v : V}, RepM K H F O (q, p) v m → RepD K F' v m.toD
  | .d x, p, v, h => RepD.mono ff h
  | .lst ds, p, v, h => by
    obtain ⟨a, vs, e, ho, hh, r⟩ := h
    subst e
    exact .lst (.inl (k a _ p ho hh)) (r.mono ff)
  | .dk kd, p, v, h => by
    obtain ⟨a, ks, vs, ds, e, ho, hh, el, r, ek⟩ := h
    subst e ek
    exact .dk (.inl (k a _ p ho hh)) el (r.mono ff)
  | .dt kd, p, v, h => by
    obtain ⟨a, ks, vs, ds, e, ho, hh, el, r, ek⟩ := h
    subst e ek
    exact .dt (k a _ p ho hh) el (r.mono ff)
  | .seq ms, p, v, h => by
    obtain ⟨a, vs, e, ho, hh, r⟩ := h
    subst e
    exact .lst (.inl (k a _ p ho hh)) (frzms ff k r)
  | .box ms, p, v, h => by
    obtain ⟨a, vs, e, ht, r⟩ := h
    subst e
    exact .tup (.inl (ff _ _ ht)) (frzms ff k r)
  | .ob c ns ms, p, v, h => by
    obtain ⟨a, C, dx, vs, e, ho, hc, hh, el, r⟩ := h
    subst e
    exact .obj hc (k a _ p ho hh) el (frzms ff k r)
  | .exn x, p, v, h => by
    obtain ⟨a, cls, d, e1, e2, r⟩ := h
    subst e2
    exact .any a
theorem frzms {H F F' : Hp} {O : OW} {q : Rt} (ff : Le F F') (k : ∀ a o p, O a = some (q, p) → H a = some o → F' a = some o) : ∀ {ms : List M} {p : List Nat} {n : Nat} {vs : List V}, RepMs K H F O (q, p) n vs ms → RepDs K F' vs (M.toDs ms)
  | [], p, n, vs, h => by rw [show vs = [] from h]; exact .nil
  | m :: ms, p, n, vs, h => by
    obtain ⟨v, vs', e, h1, h2⟩ := h
    rw [e]
    exact .cons (frzm ff k h1) (frzms ff k h2)
end
theorem frz_rep {p : List Nat} {v : V} {m : M} (b : Bs H F O) (h : RepM K H F O (q, p) v m) : RepD K (frzF q H F O) v m.toD :=
  frzm (frz_stp b).ff (fun a o p e1 e2 => by unfold frzF; rw [e1]; dsimp only; rw [if_pos rfl]; exact e2) h
end
theorem SS.at_set {S : SS} {i j : Nat} {m : Option M} {x : M} (h : SS.at (S.set i m) j = some x) : (i = j ∧ m = some x) ∨ (i ≠ j ∧ S.at j = some x) := by
  unfold SS.at at h ⊢
  by_cases e : i = j
  · subst e
    by_cases hl : i < S.length
    · rw [List.getElem?_set_self hl] at h
      exact .inl ⟨rfl, h⟩
    · rw [List.getElem?_eq_none (by simpa using hl)] at h
      cases h
  · rw [List.getElem?_set_ne e] at h
    exact .inr ⟨e, h⟩
theorem SS.set_ne {S : SS} {i j : Nat} {m : Option M} (h : i ≠ j) : SS.at (S.set i m) j = S.at j := by
  unfold SS.at
  rw [List.getElem?_set_ne h]
/-- freezing a slot -/
noncomputable def SS.frz (S : SS) (i : Nat) : SS := match S.at i with
  | some m => S.set i (some (.d m.toD))
  | none => S
theorem Rp.frzSlot {K : KG} {H F : Hp} {O : OW} {σ : St} {S : SS} {i : Nat} {m : M} (r : Rp K H F O σ S) (e : S.at i = some m) :
    Rp K H (frzF (.s i) H F O) (frzO (.s i) O) σ (S.set i (some (.d m.toD))) := by
  refine ⟨frz_bs r.bs, by rw [List.length_set]; exact r.len, fun j x h => ?_⟩
  rcases SS.at_set h with ⟨e1, e2⟩ | ⟨ne, h⟩
  · subst e1
    cases e2
    obtain ⟨v, hv, rm⟩ := r.sl i m e
    exact ⟨v, hv, frz_rep r.bs rm⟩
  · obtain ⟨v, hv, rm⟩ := r.sl j x h
    exact ⟨v, hv, frz_other r.bs rm fun z => ne (by cases z; rfl)⟩
/-- freezing a result -/
theorem Rp.frzR {K : KG} {H F : Hp} {O : OW} {σ : St} {S : SS} (r : Rp K H F O σ S) : Rp K H (frzF .r H F O) (frzO .r O) σ S :=
  ⟨frz_bs r.bs, r.len, fun j x h => by
    obtain ⟨v, hv, rm⟩ := r.sl j x h
    exact ⟨v, hv, frz_other r.bs rm fun z => by cases z⟩⟩

/-- a context's objects and classes -/
noncomputable def clsOf (mg : Str → Option Value) (c : Str) : Option Addr := match mg c with
  | some (.ref C) => some C
  | _ => none
noncomputable abbrev kg0 (K : PySem.W.Frag) (mg : Str → Option Value) : KG := ⟨K, clsOf mg, none⟩
/-- the exception that is handled in an except suite -/
noncomputable def xnOf (calm : Bool) (pn : List (Addr × Obj)) : Option (Addr × Value × Option Addr) := match calm, pn with
  | false, p :: _ => some (p.1, p.2.cls, p.2.dict)
  | _, _ => none
noncomputable abbrev kg (X : Cx) : KG := ⟨X.K, clsOf X.mg, xnOf X.calm X.pn⟩
theorem xnOf_calm {c : Bool} {pn : List (Addr × Obj)} (h : c = true) : xnOf c pn = none := by subst h; rfl
theorem kg_calm {X : Cx} (h : X.calm = true) : kg X = kg0 X.K X.mg := by unfold kg; rw [xnOf_calm h]
theorem kg_blk {X : Cx} (h : X.calm = true) (s : Shared) (H : Hp) (scope : Scope) (e : Env) (fp : List Addr) : kg (X.blk s H scope e fp) = kg X := by
  rw [kg_calm h, kg_calm (X := X.blk s H scope e fp) h]
theorem PE.imp {X : Cx} {e : Expr} {t t' : TE} (h : PE X e t) (hm : ∀ σ H Q, t' σ H Q → t σ H Q) : PE X e t' := ⟨fun pins s σ H Q I q => h.run pins s σ H Q I (hm σ H Q q)⟩
theorem PT.imp {X : Cx} {e : Expr} {t t' : TT} (h : PT X e t) (hm : ∀ σ H Q, t' σ H Q → t σ H Q) : PT X e t' := ⟨fun pins s σ H Q I q => h.run pins s σ H Q I (hm σ H Q q)⟩
theorem PW.imp {X : Cx} {e : Expr} {t t' : TT} (h : PW X e t) (hm : ∀ σ H Q, t' σ H Q → t σ H Q) : PW X e t' := ⟨fun wh pins s σ H Q I q => h.run wh pins s σ H Q I (hm σ H Q q)⟩
theorem PA.imp {X : Cx} {e : List Expr} {t t' : TA} (h : PA X e t) (hm : ∀ σ H Q, t' σ H Q → t σ H Q) : PA X e t' := ⟨fun pos pins s σ H Q I q => h.run pos pins s σ H Q I (hm σ H Q q)⟩
theorem PS.imp {X : Cx} {e : Stmt} {t t' : TS} (h : PS X e t) (hm : ∀ D σ H, t' D σ H → t D σ H) : PS X e t' := ⟨fun pins s σ H D I q => h.run pins s σ H D I (hm D σ H q)⟩
theorem PSs.imp {X : Cx} {e : List Stmt} {t t' : TS} (h : PSs X e t) (hm : ∀ D σ H, t' D σ H → t D σ H) : PSs X e t' := ⟨fun pins s σ H D I q => h.run pins s σ H D I (hm D σ H q)⟩

inductive RepOvs (K : KG) (F : Hp) (σ : St) : List V → List Ov → Prop
  | nil : RepOvs K F σ [] []
  | cons {v : V} {vs : List V} {o : Ov} {os : List Ov} : RepOv K F σ v o → RepOvs K F σ vs os → RepOvs K F σ (v :: vs) (o :: os)
theorem RepOvs.mono {K : KG} {F F' : Hp} {σ : St} (l : Le F F') : ∀ {v : List V} {d : List Ov}, RepOvs K F σ v d → RepOvs K F' σ v d
  | _, _, .nil => .nil
  | _, _, .cons h r => .cons (h.mono l) (RepOvs.mono l r)

noncomputable abbrev FE := SS → R Ov
noncomputable abbrev FM := SS → R M
noncomputable abbrev FB := SS → R Bool
noncomputable abbrev FA := SS → R (List Ov)
noncomputable def rdE (K : KG) (f : FE) : TE := fun σ H Q => ∃ F O S o S', Rp K H F O σ S ∧ f S = .ok o S' ∧
  ∀ v H' F' O', Stp H F O H' F' O' → Rp K H' F' O' σ S' → RepOv K F' σ v o → Q v H'
noncomputable def rdM (K : KG) (f : FM) : TE := fun σ H Q => ∃ F O S m S', Rp K H F O σ S ∧ f S = .ok m S' ∧
  ∀ v H' F' O', Stp H F O H' F' O' → Rp K H' F' O' σ S' → RepM K H' F' O' (.r, []) v m → Q v H'
noncomputable def rdT (K : KG) (f : FB) : TT := fun σ H Q => ∃ F O S b S', Rp K H F O σ S ∧ f S = .ok b S' ∧
  ∀ H' F' O', Stp H F O H' F' O' → Rp K H' F' O' σ S' → Q b H'
noncomputable def rdA (K : KG) (f : FA) : TA := fun σ H Q => ∃ F O S os S', Rp K H F O σ S ∧ f S = .ok os S' ∧
  ∀ vs H' F' O', Stp H F O H' F' O' → Rp K H' F' O' σ S' → RepOvs K F' σ vs os → Q vs H'
noncomputable abbrev DE (X : Cx) (f : FE) (e : Expr) : Prop := PE X e (rdE (kg X) f)
noncomputable abbrev DM (X : Cx) (f : FM) (e : Expr) : Prop := PE X e (rdM (kg X) f)
noncomputable abbrev DT (X : Cx) (f : FB) (e : Expr) : Prop := PT X e (rdT (kg X) f)
noncomputable abbrev DW (X : Cx) (f : FB) (e : Expr) : Prop := PW X e (rdT (kg X) f)
noncomputable abbrev DA (X : Cx) (f : FA) (es : List Expr) : Prop := PA X es (rdA (kg X) f)

theorem R.bind_ok {α β : Type} {r : R α} {g : α → SS → R β} {b : β} {S : SS} (h : r.bind g = .ok b S) : ∃ a S1, r = .ok a S1 ∧ g a S1 = .ok b S := by
  cases r with
  | ok a S1 => exact ⟨a, S1, rfl, h⟩
  | ex x S1 => cases h
  | no => cases h

/-! ### laying new things -/
section
variable {K : KG} {H F : Hp} {O : OW} {σ : St} {S : SS} {p : Addr} {o : HO}
theorem Bs.free (b : Bs H F O) (h : H p = none) : F p = none ∧ O p = none := by
  refine ⟨?_, ?_⟩
  · cases e : F p with
    | none => rfl
    | some x => rw [b.fh p x e] at h; cases h
  · cases e : O p with
    | none => rfl
    | some x =>
      obtain ⟨_, y, hy⟩ := b.fo p x e
      rw [hy] at h; cases h
theorem Le.upd2 (l : Le F H) : Le (upd F p o) (upd H p o) := fun a u h => by
  by_cases e : a = p
  · subst e; rw [upd_same] at h ⊢; exact h
  · rw [upd_ne e] at h ⊢; exact l a u h
theorem Le.upd1 (h : H p = none) : Le H (upd H p o) := fun a u e => by
  rw [upd_ne (ne_of_none e h)]; exact e
/-- a new frozen object -/
theorem al_upd : ∀ a u, H a = some u → ∃ u', upd H p o a = some u' := fun a u h => by
  by_cases e : a = p
  · subst e; exact ⟨o, upd_same⟩
  · exact ⟨u, by rw [upd_ne e]; exact h⟩
theorem Rp.layF (r : Rp K H F O σ S) (h : H p = none) : Stp H F O (upd H p o) (upd F p o) O ∧ Rp K (upd H p o) (upd F p o) O σ S := by
  obtain ⟨hF, hO⟩ := r.bs.free h
  refine ⟨⟨Le.upd1 hF, fun a u e _ => Le.upd1 h a u e, fun a q e => .inl ⟨q, e⟩, fun a u e => ?_, al_upd⟩, ⟨⟨r.bs.fh.upd2, fun a q e => ?_⟩, r.len, fun i m e => ?_⟩⟩
  · by_cases ea : a = p
    · subst ea; exact .inr (.inr h)
    · rw [upd_ne ea] at e; exact .inl e
  · obtain ⟨h1, u, h2⟩ := r.bs.fo a q e
    have ea : a ≠ p := fun z => by subst z; rw [h] at h2; cases h2
    rw [upd_ne ea, upd_ne ea]
    exact ⟨h1, u, h2⟩
  · obtain ⟨v, hv, rm⟩ := r.sl i m e
    exact ⟨v, hv, rm.stay (Le.upd1 hF) fun a u _ e1 e2 => ⟨Le.upd1 h a u e2, e1⟩⟩
noncomputable def ownR (O : OW) (p : Addr) (q : Pl) : OW := fun a => if a = p then some q else O a
/-- a new object of a place -/
theorem Rp.layO {q : Pl} (r : Rp K H F O σ S) (h : H p = none) : Stp H F O (upd H p o) F (ownR O p q) ∧ Rp K (upd H p o) F (ownR O p q) σ S := by
  obtain ⟨hF, hO⟩ := r.bs.free h
  refine ⟨⟨Le.refl _, fun a u e _ => Le.upd1 h a u e, fun a q e => ?_, fun a u e => .inl e, al_upd⟩, ⟨⟨r.bs.fh.trans (Le.upd1 h), fun a q' e => ?_⟩, r.len, fun i m e => ?_⟩⟩
  · unfold ownR at e
    split at e
    · rename_i z; subst z; exact .inr h
    · exact .inl ⟨q, e⟩
  · unfold ownR at e
    split at e
    · rename_i z; subst z; exact ⟨hF, o, upd_same⟩
    · rename_i ne
      obtain ⟨h1, u, h2⟩ := r.bs.fo a q' e
      exact ⟨h1, u, by rw [upd_ne ne]; exact h2⟩
  · obtain ⟨v, hv, rm⟩ := r.sl i m e
    refine ⟨v, hv, rm.stay (Le.refl _) fun a u _ e1 e2 => ⟨Le.upd1 h a u e2, ?_⟩⟩
    unfold ownR
    rw [if_neg (ne_of_none e2 h)]
    exact e1
end

/-- what is wanted of a result that is laid here, or is there -/
structure Wish (K : KG) (H F : Hp) (m : M) (Q : VK) : Prop where
  d : ∀ x v, m = .d x → RepD K F v x → Q v H
  t : ∀ zs p vs, m = .d (.tup zs) → H p = none → RepDs K F vs zs → Q (.ref p) (upd H p (.tup vs))
  l : ∀ zs p vs, m = .lst zs → H p = none → RepDs K F vs zs → Q (.ref p) (upd H p (.lst vs))
  k : ∀ (ks : List Key) ds p vs, m = .dk (ks.zip ds) → ks.length = vs.length → H p = none → RepDs K F vs ds → Q (.ref p) (upd H p (.dK (ks.zip vs)))
  o : ∀ p, m = .d .odk → H p = none → Q (.ref p) (upd H p (.ext (isDct p)))
section
variable {K : KG} {H F : Hp} {O : OW} {σ : St} {S : SS}
theorem Rp.wish {m : M} {Q : VK} (r : Rp K H F O σ S) (k : ∀ v H' F' O', Stp H F O H' F' O' → Rp K H' F' O' σ S → RepM K H' F' O' (.r, []) v m → Q v H') : Wish K H F m Q := by
  refine ⟨fun x v e h => ?_, fun zs p vs e h rv => ?_, fun zs p vs e h rv => ?_, fun ks ds p vs e el h rv => ?_, fun p e h => ?_⟩
  · subst e
    exact k v H F O (Stp.refl _ _ _) r h
  · subst e
    obtain ⟨h1, h2⟩ := r.layF (o := .tup vs) h
    exact k _ _ _ _ h1 h2 (.tup (.inl upd_same) (rv.mono h1.ff))
  · subst e
    obtain ⟨h1, h2⟩ := r.layO (o := .lst vs) (q := (.r, [])) h
    exact k _ _ _ _ h1 h2 ⟨p, vs, rfl, if_pos rfl, upd_same, rv⟩
  · subst e
    obtain ⟨h1, h2⟩ := r.layO (o := .dK (ks.zip vs)) (q := (.r, [])) h
    exact k _ _ _ _ h1 h2 ⟨p, ks, vs, ds, rfl, if_pos rfl, upd_same, el, rv, rfl⟩
  · subst e
    obtain ⟨h1, h2⟩ := r.layF (o := .ext (isDct p)) h
    exact k _ _ _ _ h1 h2 (.odk upd_same)
end

section
variable {X : Cx} {e a b : Expr} {pos : Pos}
/-! ### names and constants -/
noncomputable def eN (i : Nat) : FE := fun S => match S.at i with
  | some _ => .ok (.j i) S
  | none => .no
noncomputable def eC (d : D) : FE := fun S => .ok (.d d) S
theorem de_n {i : Nat} (h : PE X e (tVar i)) : DE X (eN i) e := PE.imp h fun σ H Q ⟨F, O, S, o, S', r, hf, k⟩ => by
  unfold eN at hf
  cases em : S.at i with
  | none => rw [em] at hf; cases hf
  | some m =>
    rw [em] at hf
    cases hf
    obtain ⟨v, hv, rm⟩ := r.sl i m em
    exact ⟨v, hv, k v H F O (Stp.refl _ _ _) r hv⟩
theorem de_c {v : V} {d : D} (h : PE X e (tC v)) (hd : ∀ F, RepD (kg X) F v d) : DE X (eC d) e := PE.imp h fun σ H Q ⟨F, O, S, o, S', r, hf, k⟩ => by
  cases hf
  exact k v H F O (Stp.refl _ _ _) r (hd F)
theorem de_int {i : Int} {j : Nat} : DE X (eC (.int i)) (.Constant (.int i) j pos) := de_c pe_int fun _ => .int _
theorem de_bl {i : Bool} {j : Nat} : DE X (eC (.bl i)) (.Constant (.bool i) j pos) := de_c pe_bl fun _ => .bl _
theorem de_str {x : Str} {j : Nat} : DE X (eC (.str x)) (.Constant (.str x) j pos) := de_c pe_str fun _ => .str _

/-! ### from a value's reading to a result's, and back -/
noncomputable def eM (f : FM) : FE := fun S => (f S).bind fun m S => .ok (.d m.toD) S
theorem de_m {f : FM} (h : DM X f e) : DE X (eM f) e := PE.imp h fun σ H Q ⟨F, O, S, o, S', r, hf, k⟩ => by
  obtain ⟨m, S1, h1, h2⟩ := R.bind_ok hf
  cases h2
  exact ⟨F, O, S, m, S', r, h1, fun v H' F' O' st r' rm => k v H' _ _ (st.trans (frz_stp r'.bs)) r'.frzR (frz_rep r'.bs rm)⟩
noncomputable def force : Ov → SS → Option (D × SS)
  | .d x, S => some (x, S)
  | .j i, S => match S.at i with
    | some m => some (m.toD, S.set i (some (.d m.toD)))
    | none => none
theorem force_ok {K : KG} {H F : Hp} {O : OW} {σ : St} {S S' : SS} {v : V} {o : Ov} {d : D} (r : Rp K H F O σ S) (ro : RepOv K F σ v o) (h : force o S = some (d, S')) :
    ∃ F' O', Stp H F O H F' O' ∧ Rp K H F' O' σ S' ∧ RepD K F' v d := by
  cases o with
  | d x => cases h; exact ⟨F, O, Stp.refl _ _ _, r, ro⟩
  | j i =>
    have h' : (match S.at i with | some m => some (m.toD, S.set i (some (.d m.toD))) | none => none) = some (d, S') := h
    cases em : S.at i with
    | none => rw [em] at h'; cases h'
    | some m =>
      rw [em] at h'
      cases h'
      obtain ⟨w, hw, rm⟩ := r.sl i m em
      have z : σ[i]? = some (some v) := ro
      rw [hw] at z
      cases z
      exact ⟨_, _, frz_stp r.bs, r.frzSlot em, frz_rep r.bs rm⟩
noncomputable def mE (f : FE) : FM := fun S => (f S).bind fun o S => match force o S with
  | some (d, S') => .ok (.d d) S'
  | none => .no
theorem dm_e {f : FE} (h : DE X f e) : DM X (mE f) e := PE.imp h fun σ H Q ⟨F, O, S, o, S', r, hf, k⟩ => by
  obtain ⟨m, S1, h1, h2⟩ := R.bind_ok hf
  refine ⟨F, O, S, m, S1, r, h1, fun v H' F' O' st r' rm => ?_⟩
  cases ef : force m S1 with
  | none => rw [ef] at h2; cases h2
  | some z =>
    obtain ⟨d, S2⟩ := z
    rw [ef] at h2
    cases h2
    obtain ⟨F2, O2, st2, r2, rd⟩ := force_ok r' rm ef
    exact k v H' F2 O2 (st.trans st2) r2 rd

/-! ### operations on two values -/
noncomputable def OpD (X : Cx) (f : Value → Value → Sem Value) (g : D → D → Option M) : Prop :=
  ∃ r : R2, OpR X f r ∧ ∀ (H F : Hp) (v u : V) (x y : D) (m : M) (Q : VK), Le F H → View (kg X) H F v x → View (kg X) H F u y → g x y = some m → Wish (kg X) H F m Q → r v u H Q
noncomputable def onD (g : D → D → Option M) (a b : Ov) (S : SS) : R M := match a.get S, b.get S with
  | some x, some y => (match g x y with
    | some m => .ok m S
    | none => .no)
  | _, _ => .no
theorem onD_ok {g : D → D → Option M} {a b : Ov} {S S' : SS} {m : M} (h : onD g a b S = .ok m S') : S' = S ∧ ∃ x y, a.get S = some x ∧ b.get S = some y ∧ g x y = some m := by
  unfold onD at h
  cases ea : a.get S with
  | none => rw [ea] at h; cases h
  | some x =>
    cases eb : b.get S with
    | none => rw [ea, eb] at h; cases h
    | some y =>
      rw [ea, eb] at h
      dsimp only at h
      cases eg : g x y with
      | none => rw [eg] at h; cases h
      | some m' => rw [eg] at h; cases h; exact ⟨rfl, x, y, rfl, rfl, eg⟩
noncomputable def mBin (g : D → D → Option M) (fa fb : FE) : FM := fun S => (fa S).bind fun a S => (fb S).bind fun b S => onD g a b S
/-- both operands, then the operation's wish -/
theorem bin_rd {K : KG} {g : D → D → Option M} {fa fb : FE} {r : R2} (hr : ∀ (H F : Hp) (v u : V) (x y : D) (m : M) (Q : VK), Le F H → View K H F v x → View K H F u y → g x y = some m → Wish K H F m Q → r v u H Q)
    {σ : St} {H : Hp} {Q : VK} (h : rdM K (mBin g fa fb) σ H Q) : tOp r (rdE K fa) (rdE K fb) σ H Q := by
  obtain ⟨F, O, S, m, S', rp, hf, k⟩ := h
  obtain ⟨a, S1, h1, h2⟩ := R.bind_ok hf
  obtain ⟨b, S2, h3, h4⟩ := R.bind_ok h2
  obtain ⟨e4, x, y, ex, ey, eg⟩ := onD_ok h4
  subst e4
  refine ⟨F, O, S, a, S1, rp, h1, fun v H1 F1 O1 st1 r1 ra => ⟨F1, O1, S1, b, S', r1, h3, fun u H2 F2 O2 st2 r2 rb => ?_⟩⟩
  refine hr H2 F2 v u x y m Q r2.bs.fh (r2.view (ra.mono st2.ff) ex) (r2.view rb ey) eg (r2.wish fun w H3 F3 O3 st3 r3 rm => ?_)
  exact k w H3 F3 O3 ((st1.trans st2).trans st3) r3 rm
theorem dm_bin {op : Operator} {g : D → D → Option M} {fa fb : FE} (ho : OpD X (binaryOp op) g) (ha : DE X fa a) (hb : DE X fb b) : DM X (mBin g fa fb) (.BinOp a op b pos) := by
  obtain ⟨r, hr, hs⟩ := ho
  exact PE.imp (pe_op hr ha hb) fun σ H Q h => bin_rd hs h
theorem dm_cmp {op : CmpOp} {g : D → D → Option M} {fa fb : FE} (ho : OpD X (compareOp op) g) (ha : DE X fa a) (hb : DE X fb b) (hm : behindInMarks op b = false) : DM X (mBin g fa fb) (.Compare a [op] [b] pos) := by
  obtain ⟨r, hr, hs⟩ := ho
  exact PE.imp (pe_cmpR hr ha hb hm) fun σ H Q h => bin_rd hs h
/-- a result that is a truth -/
noncomputable def asB (m : M) (S : SS) : R Bool := match m with
  | .d (.bl b) => .ok b S
  | _ => .no
theorem asB_ok {m : M} {S S' : SS} {b : Bool} (h : asB m S = .ok b S') : m = .d (.bl b) ∧ S' = S := by
  unfold asB at h
  split at h
  · cases h; exact ⟨rfl, rfl⟩
  · cases h
noncomputable def tM (f : FM) : FB := fun S => (f S).bind asB
theorem dt_cmp {op : CmpOp} {g : D → D → Option M} {fa fb : FE} (ho : OpD X (compareOp op) g) (ha : DE X fa a) (hb : DE X fb b) (hm : behindInMarks op b = false) : DT X (tM (mBin g fa fb)) (.Compare a [op] [b] pos) := by
  obtain ⟨r, hr, hs⟩ := ho
  refine PT.imp (pt_cmpR hr ha hb hm) fun σ H Q h => ?_
  obtain ⟨F, O, S, c, S', rp, hf, k⟩ := h
  obtain ⟨m, S1, h1, h2⟩ := R.bind_ok hf
  obtain ⟨em, eS⟩ := asB_ok h2
  subst em eS
  refine bin_rd (g := g) hs ⟨F, O, S, _, S', rp, h1, fun v H' F' O' st r' rm => ⟨c, ?_, k H' F' O' st r'⟩⟩
  cases (show RepD (kg X) F' v (.bl c) from rm)
  rfl
/-- a value that is a truth, as a test -/
theorem dt_val {f : FM} (h : DM X f e) (he : ∀ whole, isTrue e X.env whole = (do let v ← whole; standAt e.pos; holding [v] (truthy v)) := by intro _; rfl) : DT X (tM f) e := by
  refine PT.imp (pt_val h he) fun σ H Q h => ?_
  obtain ⟨F, O, S, c, S', rp, hf, k⟩ := h
  obtain ⟨m, S1, h1, h2⟩ := R.bind_ok hf
  obtain ⟨em, eS⟩ := asB_ok h2
  subst em eS
  refine ⟨F, O, S, _, S', rp, h1, fun v H' F' O' st r' rm => ⟨c, ?_, k H' F' O' st r'⟩⟩
  cases (show RepD (kg X) F' v (.bl c) from rm)
  rfl
/-! ### and, or, not -/
noncomputable def tAnd' (f g : FB) : FB := fun S => (f S).bind fun c S => if c = true then g S else .ok false S
noncomputable def tOr' (f g : FB) : FB := fun S => (f S).bind fun c S => if c = true then .ok true S else g S
noncomputable def tNot' (f : FB) : FB := fun S => (f S).bind fun c S => .ok (!c) S
theorem dt_w {f : FB} (h : DW X f e) : DT X f e := PW.pt h
theorem dw_and1 {f : FB} (h : DT X f a) : DW X f (.BoolOp .And [a] pos) := pw_and1 h
theorem dw_or1 {f : FB} (h : DT X f a) : DW X f (.BoolOp .Or [a] pos) := pw_or1 h
theorem dw_and {f g : FB} {rest : List Expr} (ha : DT X f a) (hb : DW X g (.BoolOp .And (b :: rest) pos)) : DW X (tAnd' f g) (.BoolOp .And (a :: b :: rest) pos) := by
  refine PW.imp (pw_and ha hb) fun σ H Q h => ?_
  obtain ⟨F, O, S, c, S', rp, hf, k⟩ := h
  obtain ⟨d, S1, h1, h2⟩ := R.bind_ok hf
  refine ⟨F, O, S, d, S1, rp, h1, fun H' F' O' st r' => ?_⟩
  cases d with
  | true =>
    rw [if_pos rfl]
    rw [if_pos rfl] at h2
    exact ⟨F', O', S1, c, S', r', h2, fun H2 F2 O2 st2 r2 => k H2 F2 O2 (st.trans st2) r2⟩
  | false =>
    cases h2
    exact k H' F' O' st r'
theorem dw_or {f g : FB} {rest : List Expr} (ha : DT X f a) (hb : DW X g (.BoolOp .Or (b :: rest) pos)) : DW X (tOr' f g) (.BoolOp .Or (a :: b :: rest) pos) := by
  refine PW.imp (pw_or ha hb) fun σ H Q h => ?_
  obtain ⟨F, O, S, c, S', rp, hf, k⟩ := h
  obtain ⟨d, S1, h1, h2⟩ := R.bind_ok hf
  refine ⟨F, O, S, d, S1, rp, h1, fun H' F' O' st r' => ?_⟩
  cases d with
  | false =>
    show (if false = true then _ else _)
    rw [if_neg (by decide)]
    exact ⟨F', O', S1, c, S', r', h2, fun H2 F2 O2 st2 r2 => k H2 F2 O2 (st.trans st2) r2⟩
  | true =>
    cases h2
    exact k H' F' O' st r'
theorem dt_not {f : FB} (h : DT X f a) : DT X (tNot' f) (.UnaryOp .Not a pos) := by
  refine PT.imp (pt_not h) fun σ H Q h => ?_
  obtain ⟨F, O, S, c, S', rp, hf, k⟩ := h
  obtain ⟨d, S1, h1, h2⟩ := R.bind_ok hf
  cases h2
  exact ⟨F, O, S, d, S', rp, h1, k⟩
/-- .. as values -/
noncomputable def vAnd (f g : FM) : FM := fun S => (f S).bind fun m S => (asB m S).bind fun c S => if c = true then g S else .ok (.d (.bl false)) S
noncomputable def vOr (f g : FM) : FM := fun S => (f S).bind fun m S => (asB m S).bind fun c S => if c = true then .ok (.d (.bl true)) S else g S
noncomputable def vNot (f : FM) : FM := fun S => (f S).bind fun m S => (asB m S).bind fun c S => .ok (.d (.bl (!c))) S
theorem dm_one {op : BoolOp} {f : FM} (h : DM X f a) : DM X f (.BoolOp op [a] pos) := pe_one h
theorem dm_and {f g : FM} {rest : List Expr} (ha : DM X f a) (hb : DM X g (.BoolOp .And (b :: rest) pos)) : DM X (vAnd f g) (.BoolOp .And (a :: b :: rest) pos) := by
  refine PE.imp (pe_and ha hb) fun σ H Q h => ?_
  obtain ⟨F, O, S, m, S', rp, hf, k⟩ := h
  obtain ⟨n, S1, h1, h2⟩ := R.bind_ok hf
  obtain ⟨c, S2, h3, h4⟩ := R.bind_ok h2
  obtain ⟨en, eS⟩ := asB_ok h3
  subst en eS
  refine ⟨F, O, S, _, S2, rp, h1, fun v H' F' O' st r' rm => ⟨c, by cases (show RepD (kg X) F' v (.bl c) from rm); rfl, ?_⟩⟩
  cases c with
  | true =>
    rw [if_pos rfl]
    rw [if_pos rfl] at h4
    exact ⟨F', O', S2, m, S', r', h4, fun u H2 F2 O2 st2 r2 rm2 => k u H2 F2 O2 (st.trans st2) r2 rm2⟩
  | false =>
    cases h4
    exact k _ H' F' O' st r' (.bl false)
theorem dm_or {f g : FM} {rest : List Expr} (ha : DM X f a) (hb : DM X g (.BoolOp .Or (b :: rest) pos)) : DM X (vOr f g) (.BoolOp .Or (a :: b :: rest) pos) := by
  refine PE.imp (pe_or ha hb) fun σ H Q h => ?_
  obtain ⟨F, O, S, m, S', rp, hf, k⟩ := h
  obtain ⟨n, S1, h1, h2⟩ := R.bind_ok hf
  obtain ⟨c, S2, h3, h4⟩ := R.bind_ok h2
  obtain ⟨en, eS⟩ := asB_ok h3
  subst en eS
  refine ⟨F, O, S, _, S2, rp, h1, fun v H' F' O' st r' rm => ⟨c, by cases (show RepD (kg X) F' v (.bl c) from rm); rfl, ?_⟩⟩
  cases c with
  | false =>
    show (if false = true then _ else _)
    rw [if_neg (by decide)]
    exact ⟨F', O', S2, m, S', r', h4, fun u H2 F2 O2 st2 r2 rm2 => k u H2 F2 O2 (st.trans st2) r2 rm2⟩
  | true =>
    cases h4
    exact k _ H' F' O' st r' (.bl true)
theorem dm_not {f : FM} (h : DM X f a) : DM X (vNot f) (.UnaryOp .Not a pos) := by
  refine PE.imp (pe_not h) fun σ H Q h => ?_
  obtain ⟨F, O, S, m, S', rp, hf, k⟩ := h
  obtain ⟨n, S1, h1, h2⟩ := R.bind_ok hf
  obtain ⟨c, S2, h3, h4⟩ := R.bind_ok h2
  obtain ⟨en, eS⟩ := asB_ok h3
  subst en eS
  cases h4
  refine ⟨F, O, S, M.d (.bl c), _, rp, h1, fun v H' F' O' st r' rm => ⟨c, by cases (show RepD (kg X) F' v (.bl c) from rm); rfl, k _ H' F' O' st r' (.bl _)⟩⟩
/-- a if t else b -/
noncomputable def mIf (t : FB) (f g : FM) : FM := fun S => (t S).bind fun c S => if c = true then f S else g S
theorem dm_if {c : Expr} {t : FB} {f g : FM} (hc : DT X t c) (ha : DM X f a) (hb : DM X g b) : DM X (mIf t f g) (.IfExp c a b pos) := by
  refine PE.imp (pe_ifExp hc ha hb) fun σ H Q h => ?_
  obtain ⟨F, O, S, m, S', rp, hf, k⟩ := h
  obtain ⟨d, S1, h1, h2⟩ := R.bind_ok hf
  refine ⟨F, O, S, d, S1, rp, h1, fun H' F' O' st r' => ?_⟩
  cases d with
  | true =>
    rw [if_pos rfl]
    rw [if_pos rfl] at h2
    exact ⟨F', O', S1, m, S', r', h2, fun u H2 F2 O2 st2 r2 rm2 => k u H2 F2 O2 (st.trans st2) r2 rm2⟩
  | false =>
    show (if false = true then _ else _)
    rw [if_neg (by decide)]
    exact ⟨F', O', S1, m, S', r', h2, fun u H2 F2 O2 st2 r2 rm2 => k u H2 F2 O2 (st.trans st2) r2 rm2⟩

/-! ### argument lists, displays -/
noncomputable def aNil : FA := fun S => .ok [] S
noncomputable def aCons (f : FE) (g : FA) : FA := fun S => (f S).bind fun o S => (g S).bind fun os S => .ok (o :: os) S
theorem da_nil : DA X aNil [] := PA.imp pa_nil fun σ H Q ⟨F, O, S, os, S', r, hf, k⟩ => by
  cases hf
  exact k [] H F O (Stp.refl _ _ _) r .nil
theorem da_cons {f : FE} {g : FA} {es : List Expr} (ha : DE X f e) (hr : DA X g es) (hs : starEach (e :: es) X.env = (false, eval e X.env) :: starEach es X.env := by rfl) : DA X (aCons f g) (e :: es) := by
  refine PA.imp (pa_cons ha hr hs) fun σ H Q ⟨F, O, S, os, S', r, hf, k⟩ => ?_
  obtain ⟨o, S1, h1, h2⟩ := R.bind_ok hf
  obtain ⟨or, S2, h3, h4⟩ := R.bind_ok h2
  cases h4
  exact ⟨F, O, S, o, S1, r, h1, fun v H1 F1 O1 st1 r1 ro => ⟨F1, O1, S1, or, S', r1, h3, fun vs H2 F2 O2 st2 r2 rs => k (v :: vs) H2 F2 O2 (st1.trans st2) r2 (.cons (ro.mono st2.ff) rs)⟩⟩
noncomputable def forceAll : List Ov → SS → Option (List D × SS)
  | [], S => some ([], S)
  | o :: os, S => match force o S with
    | some (d, S1) => (match forceAll os S1 with
      | some (ds, S2) => some (d :: ds, S2)
      | none => none)
    | none => none
theorem forceAll_ok {K : KG} {H : Hp} {σ : St} : ∀ {vs : List V} {os : List Ov} {F : Hp} {O : OW} {S S' : SS} {ds : List D}, Rp K H F O σ S → RepOvs K F σ vs os → forceAll os S = some (ds, S') →
    ∃ F' O', Stp H F O H F' O' ∧ Rp K H F' O' σ S' ∧ RepDs K F' vs ds
  | [], _, F, O, S, S', ds, r, .nil, h => by cases h; exact ⟨F, O, Stp.refl _ _ _, r, .nil⟩
  | v :: vs, o :: os, F, O, S, S', ds, r, .cons ro rs, h => by
    have h' : (match force o S with | some (d, S1) => (match forceAll os S1 with | some (ds, S2) => some (d :: ds, S2) | none => none) | none => none) = some (ds, S') := h
    cases e1 : force o S with
    | none => rw [e1] at h'; cases h'
    | some z =>
      obtain ⟨d, S1⟩ := z
      rw [e1] at h'
      dsimp only at h'
      cases e2 : forceAll os S1 with
      | none => rw [e2] at h'; cases h'
      | some z2 =>
        obtain ⟨dr, S2⟩ := z2
        rw [e2] at h'
        cases h'
        obtain ⟨F1, O1, st1, r1, rd⟩ := force_ok r ro e1
        obtain ⟨F2, O2, st2, r2, rds⟩ := forceAll_ok r1 (rs.mono st1.ff) e2
        exact ⟨F2, O2, st1.trans st2, r2, .cons (rd.mono st2.ff) rds⟩
noncomputable def line : Nat := 16777216
theorem line_eq : line = sizeLine := sizeLine_eq.symm
noncomputable def dispF (mk : List D → M) (os : List Ov) (S : SS) : R M := match forceAll os S with
  | some (ds, S') => if ds.length ≤ line then .ok (mk ds) S' else .no
  | none => .no
noncomputable def mTup (f : FA) : FM := fun S => (f S).bind (dispF fun ds => .d (.tup ds))
noncomputable def mLst (f : FA) : FM := fun S => (f S).bind (dispF fun ds => .lst ds)
theorem disp_ok {mk : List D → M} {os : List Ov} {S S' : SS} {m : M} (h : dispF mk os S = .ok m S') : ∃ ds, forceAll os S = some (ds, S') ∧ ds.length ≤ sizeLine ∧ m = mk ds := by
  unfold dispF at h
  cases e : forceAll os S with
  | none => rw [e] at h; cases h
  | some z =>
    obtain ⟨ds, S1⟩ := z
    rw [e] at h
    dsimp only at h
    split at h
    · rename_i hl
      cases h
      exact ⟨ds, rfl, by rw [← line_eq]; exact hl, rfl⟩
    · cases h
theorem dm_tup {f : FA} {es : List Expr} {k : Nat} (h : DA X f es) : DM X (mTup f) (.Tuple es k pos) := by
  refine PE.imp (pe_tup h) fun σ H Q ⟨F, O, S, m, S', r, hf, k⟩ => ?_
  obtain ⟨os, S1, h1, h2⟩ := R.bind_ok hf
  obtain ⟨ds, e, hl, em⟩ := disp_ok h2
  refine ⟨F, O, S, os, S1, r, h1, fun vs H1 F1 O1 st1 r1 rs => ?_⟩
  obtain ⟨F2, O2, st2, r2, rd⟩ := forceAll_ok r1 rs e
  exact ⟨by rw [rd.len]; exact hl, fun p hp => (r2.wish fun v H3 F3 O3 st3 r3 rm => k v H3 F3 O3 ((st1.trans st2).trans st3) r3 rm).t ds p vs em hp rd⟩
theorem dm_lst {f : FA} {es : List Expr} (h : DA X f es) : DM X (mLst f) (.List es pos) := by
  refine PE.imp (pe_lst h) fun σ H Q ⟨F, O, S, m, S', r, hf, k⟩ => ?_
  obtain ⟨os, S1, h1, h2⟩ := R.bind_ok hf
  obtain ⟨ds, e, hl, em⟩ := disp_ok h2
  refine ⟨F, O, S, os, S1, r, h1, fun vs H1 F1 O1 st1 r1 rs => ?_⟩
  obtain ⟨F2, O2, st2, r2, rd⟩ := forceAll_ok r1 rs e
  exact ⟨by rw [rd.len]; exact hl, fun p hp => (r2.wish fun v H3 F3 O3 st3 r3 rm => k v H3 F3 O3 ((st1.trans st2).trans st3) r3 rm).l ds p vs em hp rd⟩
end

inductive Fl where
  | nx | rt (m : M) | bk | ct
noncomputable abbrev FS := SS → R Fl
noncomputable def Kp (kp : Nat → Bool) (σ σ' : St) : Prop := σ'.length = σ.length ∧ ∀ i, kp i = true → σ'[i]? = σ[i]?
theorem Kp.refl (kp : Nat → Bool) (σ : St) : Kp kp σ σ := ⟨rfl, fun _ _ => rfl⟩
theorem Kp.trans {kp : Nat → Bool} {σ σ1 σ2 : St} (a : Kp kp σ σ1) (b : Kp kp σ1 σ2) : Kp kp σ σ2 := ⟨b.1.trans a.1, fun i h => (b.2 i h).trans (a.2 i h)⟩
theorem Kp.set {kp : Nat → Bool} {σ : St} {i : Nat} {v : Option V} (h : kp i = false) : Kp kp σ (σ.set i v) := ⟨List.length_set, fun j hj => by
  rw [List.getElem?_set_ne]
  intro e
  subst e
  rw [h] at hj
  cases hj⟩
noncomputable def rdF (K : KG) (kp : Nat → Bool) (D : Ends) (σ : St) (H F : Hp) (O : OW) (S' : SS) : Fl → Prop
  | .nx => ∀ σ' H' F' O', Stp H F O H' F' O' → Rp K H' F' O' σ' S' → Kp kp σ σ' → D.nx σ' H'
  | .rt m => ∀ v σ' H' F' O', Stp H F O H' F' O' → Rp K H' F' O' σ' S' → Kp kp σ σ' → RepM K H' F' O' (.r, []) v m → D.rt v H'
  | .bk => ∀ σ' H' F' O', Stp H F O H' F' O' → Rp K H' F' O' σ' S' → Kp kp σ σ' → D.bk σ' H'
  | .ct => ∀ σ' H' F' O', Stp H F O H' F' O' → Rp K H' F' O' σ' S' → Kp kp σ σ' → D.ct σ' H'
theorem rdF.from {K : KG} {kp : Nat → Bool} {D : Ends} {σ σ1 : St} {H F H1 F1 : Hp} {O O1 : OW} {S' : SS} {fl : Fl} (h : rdF K kp D σ H F O S' fl) (st : Stp H F O H1 F1 O1) (k : Kp kp σ σ1) : rdF K kp D σ1 H1 F1 O1 S' fl := by
  cases fl with
  | nx => exact fun σ' H' F' O' st' r kk => h σ' H' F' O' (st.trans st') r (k.trans kk)
  | rt m => exact fun v σ' H' F' O' st' r kk => h v σ' H' F' O' (st.trans st') r (k.trans kk)
  | bk => exact fun σ' H' F' O' st' r kk => h σ' H' F' O' (st.trans st') r (k.trans kk)
  | ct => exact fun σ' H' F' O' st' r kk => h σ' H' F' O' (st.trans st') r (k.trans kk)
noncomputable def rdS (K : KG) (kp : Nat → Bool) (f : FS) : TS := fun D σ H => ∃ F O S fl S', Rp K H F O σ S ∧ f S = .ok fl S' ∧ rdF K kp D σ H F O S' fl
noncomputable abbrev DS (X : Cx) (kp : Nat → Bool) (f : FS) (st : Stmt) : Prop := PS X st (rdS (kg X) kp f)
noncomputable abbrev DSs (X : Cx) (kp : Nat → Bool) (f : FS) (sts : List Stmt) : Prop := PSs X sts (rdS (kg X) kp f)

section
variable {X : Cx} {kp : Nat → Bool} {e a b : Expr} {pos : Pos} {st : Stmt} {rest : List Stmt} {f g : FS}
/-! ### blocks -/
noncomputable def sNil : FS := fun S => .ok .nx S
noncomputable def sSeq (f g : FS) : FS := fun S => (f S).bind fun fl S => match fl with
  | .nx => g S
  | .rt m => .ok (.rt m) S
  | .bk => .ok .bk S
  | .ct => .ok .ct S
theorem dss_nil : DSs X kp sNil [] := PSs.imp pss_nil fun D σ H ⟨F, O, S, fl, S', r, hf, k⟩ => by
  cases hf
  exact k σ H F O (Stp.refl _ _ _) r (Kp.refl _ _)
theorem seq_rd {K : KG} {D : Ends} {σ : St} {H : Hp} (h : rdS K kp (sSeq f g) D σ H) : tSeq (rdS K kp f) (rdS K kp g) D σ H := by
  obtain ⟨F, O, S, fl, S', r, hf, k⟩ := h
  obtain ⟨f1, S1, h1, h2⟩ := R.bind_ok hf
  refine ⟨F, O, S, f1, S1, r, h1, ?_⟩
  cases f1 with
  | nx => exact fun σ1 H1 F1 O1 st1 r1 kk => ⟨F1, O1, S1, fl, S', r1, h2, k.from st1 kk⟩
  | rt m => cases h2; exact k
  | bk => cases h2; exact k
  | ct => cases h2; exact k
theorem dss_cons (h1 : DS X kp f st) (h2 : DSs X kp g rest) : DSs X kp (sSeq f g) (st :: rest) := PSs.imp (pss_cons h1 h2) fun D σ H h => seq_rd h
theorem dss_one (h1 : DS X kp f st) : DSs X kp f [st] := pss_one h1
/-- what is not reached, or not served -/
noncomputable def sNo : FS := fun _ => .no
theorem ds_no : DS X kp sNo st := ⟨fun _ _ _ _ _ _ ⟨_, _, _, _, _, _, h, _⟩ => by cases h⟩
noncomputable def sExpr (f : FM) : FS := fun S => (f S).bind fun _ S => .ok .nx S
theorem ds_expr {f : FM} (h : DM X f e) (hs : swapsWith e none pos.line X.env = pure false := by rfl) : DS X kp (sExpr f) (.Expr e pos) := PS.imp (ps_expr h hs) fun D σ H ⟨F, O, S, fl, S', r, hf, k⟩ => by
  obtain ⟨m, S1, h1, h2⟩ := R.bind_ok hf
  cases h2
  exact ⟨F, O, S, m, S', r, h1, fun v H1 F1 O1 st1 r1 _ => k σ H1 F1 O1 st1 r1 (Kp.refl _ _)⟩
noncomputable def sRet (f : FM) : FS := fun S => (f S).bind fun m S => .ok (.rt m) S
theorem ds_ret {f : FM} (h : DM X f e) : DS X kp (sRet f) (.Return (some e) pos) := PS.imp (ps_ret h) fun D σ H ⟨F, O, S, fl, S', r, hf, k⟩ => by
  obtain ⟨m, S1, h1, h2⟩ := R.bind_ok hf
  cases h2
  exact ⟨F, O, S, m, S', r, h1, fun v H1 F1 O1 st1 r1 rm => k v σ H1 F1 O1 st1 r1 (Kp.refl _ _) rm⟩
noncomputable def sIf (t : FB) (f g : FS) : FS := fun S => (t S).bind fun c S => if c = true then f S else g S
theorem ds_if {c : Expr} {t : FB} {sa sb : List Stmt} (hc : DT X t c) (ha : DSs X kp f sa) (hb : DSs X kp g sb) : DS X kp (sIf t f g) (.If c sa sb pos) := PS.imp (ps_if hc ha hb) fun D σ H ⟨F, O, S, fl, S', r, hf, k⟩ => by
  obtain ⟨d, S1, h1, h2⟩ := R.bind_ok hf
  refine ⟨F, O, S, d, S1, r, h1, fun H1 F1 O1 st1 r1 => ?_⟩
  cases d with
  | true =>
    rw [if_pos rfl]
    rw [if_pos rfl] at h2
    exact ⟨F1, O1, S1, fl, S', r1, h2, k.from st1 (Kp.refl _ _)⟩
  | false =>
    show (if false = true then _ else _)
    rw [if_neg (by decide)]
    exact ⟨F1, O1, S1, fl, S', r1, h2, k.from st1 (Kp.refl _ _)⟩

/-! ### a root takes another's things -/
noncomputable def mvO (q q' : Rt) (O : OW) : OW := fun a => match O a with
  | some (z, p) => if z = q then some (q', p) else if z = q' then none else some (z, p)
  | none => none
section
variable {K : KG} {H F : Hp} {O : OW} {q q' : Rt} {σ : St} {S : SS}
theorem mvO_some {a : Addr} {z : Pl} (h : mvO q q' O a = some z) : ∃ z', O a = some z' := by
  unfold mvO at h
  cases e : O a with
  | none => rw [e] at h; cases h
  | some z' => exact ⟨z', rfl⟩
theorem mv_bs (b : Bs H F O) : Bs H F (mvO q q' O) := ⟨b.fh, fun a z h => by
  obtain ⟨z', e⟩ := mvO_some h
  exact b.fo a z' e⟩
theorem mv_stp : Stp H F O H F (mvO q q' O) := ⟨Le.refl _, fun _ _ h _ => h, fun a z h => .inl (mvO_some h), fun a o h => .inl h, fun _ o h => ⟨o, h⟩⟩
theorem mv_rep {p : List Nat} {v : V} {m : M} (h : RepM K H F O (q, p) v m) : RepM K H F (mvO q q' O) (q', p) v m :=
  RepM.move (Le.refl _) (fun a o _ e1 e2 => ⟨e2, by unfold mvO; rw [e1]; dsimp only; rw [if_pos rfl]⟩) h
theorem mv_other {z : Rt} {p : List Nat} {v : V} {m : M} (h : RepM K H F O (z, p) v m) (n1 : z ≠ q) (n2 : z ≠ q') : RepM K H F (mvO q q' O) (z, p) v m :=
  h.stay (Le.refl _) fun a o _ e1 e2 => ⟨e2, by unfold mvO; rw [e1]; dsimp only; rw [if_neg n1, if_neg n2]⟩
/-- the result is put into a slot -/
theorem Rp.put {i : Nat} {v : V} {m : M} (r : Rp K H F O σ S) (rm : RepM K H F O (.r, []) v m) : Rp K H F (mvO .r (.s i) O) (σ.set i (some v)) (S.set i (some m)) := by
  refine ⟨mv_bs r.bs, by rw [List.length_set, List.length_set]; exact r.len, fun j x h => ?_⟩
  rcases SS.at_set h with ⟨e1, e2⟩ | ⟨ne, h⟩
  · subst e1
    cases e2
    have hl : i < σ.length := by
      rw [← r.len]
      unfold SS.at at h
      by_cases z : i < S.length
      · exact z
      · rw [List.getElem?_eq_none (by simpa using z)] at h; cases h
    exact ⟨v, by rw [List.getElem?_set_self hl], mv_rep rm⟩
  · obtain ⟨w, hw, rw'⟩ := r.sl j x h
    exact ⟨w, by rw [List.getElem?_set_ne ne]; exact hw, mv_other rw' (fun z => by cases z) (fun z => ne (by cases z; rfl))⟩
/-- a slot is forgotten -/
theorem Rp.drop {i : Nat} (r : Rp K H F O σ S) : Rp K H F O σ (S.set i none) := by
  refine ⟨r.bs, by rw [List.length_set]; exact r.len, fun j x h => ?_⟩
  rcases SS.at_set h with ⟨e1, e2⟩ | ⟨ne, h⟩
  · cases e2
  · exact r.sl j x h
/-- a slot gives its thing as a result -/
theorem Rp.give {i : Nat} {m : M} (r : Rp K H F O σ S) (e : S.at i = some m) : ∃ v, σ[i]? = some (some v) ∧ Rp K H F (mvO (.s i) .r O) σ (S.set i none) ∧ RepM K H F (mvO (.s i) .r O) (.r, []) v m := by
  obtain ⟨v, hv, rm⟩ := r.sl i m e
  refine ⟨v, hv, ⟨mv_bs r.bs, by rw [List.length_set]; exact r.len, fun j x h => ?_⟩, mv_rep rm⟩
  rcases SS.at_set h with ⟨e1, e2⟩ | ⟨ne, h⟩
  · cases e2
  · obtain ⟨w, hw, rw'⟩ := r.sl j x h
    exact ⟨w, hw, mv_other rw' (fun z => ne (by cases z; rfl)) (fun z => by cases z)⟩
end
/-! ### a name is stored -/
noncomputable def sSet (i : Nat) (f : FM) : FS := fun S => (f S).bind fun m S => .ok .nx (S.set i (some m))
theorem set_rd {K : KG} {i : Nat} {f : FM} {te : TE} (hk : kp i = false) (ht : ∀ σ H Q, rdM K f σ H Q → te σ H Q) {D : Ends} {σ : St} {H : Hp} (h : rdS K kp (sSet i f) D σ H) : tAsg te (gName i) D σ H := by
  obtain ⟨F, O, S, fl, S', r, hf, k⟩ := h
  obtain ⟨m, S1, h1, h2⟩ := R.bind_ok hf
  cases h2
  exact ht _ _ _ ⟨F, O, S, m, S1, r, h1, fun v H1 F1 O1 st1 r1 rm => k _ H1 F1 _ (st1.trans mv_stp) (r1.put rm) (Kp.set hk)⟩
theorem ds_set {i : Nat} {x : Str} {f : FM} {pos' : Pos} (hN : X.N.Nodup) (hi : X.N[i]? = some x) (hx : Loc X.env.scope x) (hk : kp i = false) (h : DM X f e)
    (hs : swapsWith e (some (.Name x pos')) pos.line X.env = pure false := by rfl) (hf : X.fn x = true ∨ X.env.scope.names.lookup x = some .local := by first | exact .inl rfl | exact .inr rfl | assumption) :
    DS X kp (sSet i f) (.Assign [.Name x pos'] e pos) := PS.imp (ps_set hN hi hx h hs hf) fun D σ H h => set_rd hk (fun _ _ _ q => q) h
/-- return of a name: its thing goes along -/
noncomputable def sRetV (i : Nat) : FS := fun S => match S.at i with
  | some m => .ok (.rt m) (S.set i none)
  | none => .no
theorem ds_retV {i : Nat} (h : PE X e (tVar i)) : DS X kp (sRetV i) (.Return (some e) pos) := PS.imp (ps_ret h) fun D σ H ⟨F, O, S, fl, S', r, hf, k⟩ => by
  unfold sRetV at hf
  cases em : S.at i with
  | none => rw [em] at hf; cases hf
  | some m =>
    rw [em] at hf
    cases hf
    obtain ⟨v, hv, r1, rm⟩ := r.give em
    exact ⟨v, hv, k v σ H F _ mv_stp r1 (Kp.refl _ _) rm⟩

/-! ### targets -/
noncomputable abbrev FG := D → SS → Option SS
noncomputable abbrev FGs := List D → SS → Option SS
noncomputable def rdG (K : KG) (kp : Nat → Bool) (g : FG) : TG := fun v σ H Q => ∃ F O S d S', Rp K H F O σ S ∧ RepD K F v d ∧ g d S = some S' ∧
  ∀ σ' F' O', Stp H F O H F' O' → Rp K H F' O' σ' S' → Kp kp σ σ' → Q σ' H
noncomputable def rdGs (K : KG) (kp : Nat → Bool) (g : FGs) : TGs := fun vs σ H Q => ∃ F O S ds S', Rp K H F O σ S ∧ RepDs K F vs ds ∧ g ds S = some S' ∧
  ∀ σ' F' O', Stp H F O H F' O' → Rp K H F' O' σ' S' → Kp kp σ σ' → Q σ' H
theorem PG.imp {X : Cx} {e : Expr} {t t' : TG} (h : PG X e t) (hm : ∀ v σ H Q, t' v σ H Q → t v σ H Q) : PG X e t' := ⟨fun pins s σ H v u Q I r q => h.run pins s σ H v u Q I r (hm v σ H Q q)⟩
theorem PGs.imp {X : Cx} {e : List Expr} {t t' : TGs} (h : PGs X e t) (hm : ∀ v σ H Q, t' v σ H Q → t v σ H Q) : PGs X e t' := ⟨fun pins s σ H v u Q I r q => h.run pins s σ H v u Q I r (hm v σ H Q q)⟩
noncomputable abbrev DG (X : Cx) (kp : Nat → Bool) (g : FG) (e : Expr) : Prop := PG X e (rdG (kg X) kp g)
noncomputable abbrev DGs (X : Cx) (kp : Nat → Bool) (g : FGs) (e : List Expr) : Prop := PGs X e (rdGs (kg X) kp g)
noncomputable def gN (i : Nat) : FG := fun d S => some (S.set i (some (.d d)))
theorem Rp.putD {K : KG} {H F : Hp} {O : OW} {σ : St} {S : SS} {i : Nat} {v : V} {d : D} (r : Rp K H F O σ S) (rd : RepD K F v d) : Rp K H F O (σ.set i (some v)) (S.set i (some (.d d))) := by
  refine ⟨r.bs, by rw [List.length_set, List.length_set]; exact r.len, fun j x h => ?_⟩
  rcases SS.at_set h with ⟨e1, e2⟩ | ⟨ne, h⟩
  · subst e1
    cases e2
    have hl : i < σ.length := by
      rw [← r.len]
      unfold SS.at at h
      by_cases z : i < S.length
      · exact z
      · rw [List.getElem?_eq_none (by simpa using z)] at h; cases h
    exact ⟨v, by rw [List.getElem?_set_self hl], rd⟩
  · obtain ⟨w, hw, rw'⟩ := r.sl j x h
    exact ⟨w, by rw [List.getElem?_set_ne ne]; exact hw, rw'⟩
theorem dg_n {i : Nat} (hk : kp i = false) (h : PG X e (gName i)) : DG X kp (gN i) e := PG.imp h fun v σ H Q ⟨F, O, S, d, S', r, rd, hg, k⟩ => by
  cases hg
  exact k _ F O (Stp.refl _ _ _) (r.putD rd) (Kp.set hk)
noncomputable def gsNil : FGs := fun ds S => match ds with
  | [] => some S
  | _ => none
noncomputable def gsCons (g : FG) (gs : FGs) : FGs := fun ds S => match ds with
  | [] => none
  | d :: ds => match g d S with
    | some S1 => gs ds S1
    | none => none
theorem dgs_nil : DGs X kp gsNil [] := PGs.imp pgs_nil fun vs σ H Q ⟨F, O, S, ds, S', r, rd, hg, k⟩ => by
  cases rd with
  | nil => cases hg; exact ⟨rfl, k σ F O (Stp.refl _ _ _) r (Kp.refl _ _)⟩
  | cons _ _ => cases hg
theorem dgs_cons {es : List Expr} {g : FG} {gs : FGs} (h1 : DG X kp g e) (h2 : DGs X kp gs es) (hs : (assignEach (e :: es) X.env).map (·.2) = assign e X.env :: (assignEach es X.env).map (·.2) := by rfl) : DGs X kp (gsCons g gs) (e :: es) :=
  PGs.imp (pgs_cons h1 h2 hs) fun vs σ H Q ⟨F, O, S, ds, S', r, rd, hg, k⟩ => by
    cases rd with
    | nil => cases hg
    | @cons v vs d ds rd rds =>
      have hg : (match g d S with | some S1 => gs ds S1 | none => none) = some S' := hg
      cases e1 : g d S with
      | none => rw [e1] at hg; cases hg
      | some S1 =>
        rw [e1] at hg
        exact ⟨v, vs, rfl, F, O, S, d, S1, r, rd, e1, fun σ1 F1 O1 st1 r1 k1 => ⟨F1, O1, S1, ds, S', r1, rds.mono st1.ff, hg, fun σ2 F2 O2 st2 r2 k2 => k σ2 F2 O2 (st1.trans st2) r2 (k1.trans k2)⟩⟩
noncomputable def gT (n : Nat) (gs : FGs) : FG := fun d S => match d with
  | .tup ds => if ds.length = n then gs ds S else none
  | _ => none
theorem dg_t {es : List Expr} {k n : Nat} {gs : FGs} (hc : X.calm = true) (h : DGs X kp gs es) (hn : (assignEach es X.env).length = n := by rfl) (hst : (assignEach es X.env).findIdx? (·.1) = none := by rfl) : DG X kp (gT n gs) (.Tuple es k pos) :=
  PG.imp (pg_tup hc h hn hst) fun v σ H Q ⟨F, O, S, d, S', r, rd, hg, k⟩ => by
    cases d with
    | tup ds =>
      have hg : (if ds.length = n then gs ds S else none) = some S' := hg
      cases rd with
      | @tup a vs _ ht rds =>
        by_cases hl : ds.length = n
        · rw [if_pos hl] at hg
          exact ⟨a, vs, rfl, r.bs.fh.st ht.sq, by rw [rds.len]; exact hl, F, O, S, ds, S', r, rds, hg, k⟩
        · rw [if_neg hl] at hg; cases hg
    | _ => cases hg
/-- target = value -/
noncomputable def sAsg (f : FE) (g : FG) : FS := fun S => (f S).bind fun o S => match force o S with
  | some (d, S1) => (match g d S1 with
    | some S2 => .ok .nx S2
    | none => .no)
  | none => .no
theorem ds_asg {tg : Expr} {f : FE} {g : FG} (he : DE X f e) (hg : DG X kp g tg) (hs : swapsWithSole [tg] e pos.line X.env = pure false := by rfl) (hw : swappedStores [tg] e X.env = pure none := by rfl)
    (h1 : (assignEach [tg] X.env).map (·.2) = [assign tg X.env] := by rfl) : DS X kp (sAsg f g) (.Assign [tg] e pos) := PS.imp (ps_asg he hg hs hw h1) fun D σ H ⟨F, O, S, fl, S', r, hf, k⟩ => by
  obtain ⟨o, S1, h1, h2⟩ := R.bind_ok hf
  refine ⟨F, O, S, o, S1, r, h1, fun v H1 F1 O1 st1 r1 ro => ?_⟩
  cases ef : force o S1 with
  | none => rw [ef] at h2; cases h2
  | some z =>
    obtain ⟨d, S2⟩ := z
    rw [ef] at h2
    dsimp only at h2
    cases eg : g d S2 with
    | none => rw [eg] at h2; cases h2
    | some S3 =>
      rw [eg] at h2
      cases h2
      obtain ⟨F2, O2, st2, r2, rd⟩ := force_ok r1 ro ef
      exact ⟨F2, O2, S2, d, S', r2, rd, eg, fun σ3 F3 O3 st3 r3 kk => k σ3 H1 F3 O3 ((st1.trans st2).trans st3) r3 kk⟩
end

noncomputable abbrev FI := SS → R (List D)
structure Walks (K : KG) (J : It) (ds : List D) (F : Hp) : Prop where
  go : ∀ i H F', Le F F' → Le F' H → i < ds.length → J.go i H
  yld : ∀ i H F' O σ S x H', Rp K H F' O σ S → Le F F' → i < ds.length → J.yld i H x H' → ∃ F'', Stp H F' O H' F'' O ∧ Rp K H' F'' O σ S ∧ ∀ d, ds[i]? = some d → RepD K F'' x d
  stop : ∀ H F', Le F F' → Le F' H → J.stop ds.length H
theorem PI.imp {X : Cx} {tg iter : Expr} {w w' : TI} (h : PI X tg iter w) (hm : ∀ σ H R, w' σ H R → w σ H R) : PI X tg iter w' := ⟨fun pins s σ H R I q => h.run pins s σ H R I (hm σ H R q)⟩
theorem PI.or {X : Cx} {tg iter : Expr} {w w' : TI} (h : PI X tg iter w) (h' : PI X tg iter w') : PI X tg iter (fun σ H R => w σ H R ∨ w' σ H R) := ⟨fun pins s σ H R I q => by
  rcases q with q | q
  · exact h.run pins s σ H R I q
  · exact h'.run pins s σ H R I q⟩
noncomputable def rdI (K : KG) (f : FI) : TI := fun σ H R' => ∃ F O S ds S', Rp K H F O σ S ∧ f S = .ok ds S' ∧
  ∀ J H' F' O', Stp H F O H' F' O' → Rp K H' F' O' σ S' → Walks K J ds F' → R' J H'
noncomputable abbrev DI (X : Cx) (f : FI) (iter : Expr) : Prop := ∀ tg, PI X tg iter (rdI (kg X) f)

section
variable {K : KG} {F : Hp}
theorem walks_list {a : Addr} {vs : List V} {ds : List D} (h : Rd F a (.lst vs)) (r : RepDs K F vs ds) : Walks K (Itl K a) ds F := by
  refine ⟨fun i H F' l1 l2 hi => ?_, fun i H F' O σ S x H' rp l1 hi y => ?_, fun H F' l1 l2 => ?_⟩
  · have hi' : i < vs.length := by rw [r.len]; exact hi
    exact ⟨vs, vs[i], .inl ((l1.trans l2).rd h), List.getElem?_eq_getElem hi'⟩
  · obtain ⟨e, y⟩ := y
    subst e
    refine ⟨F', Stp.refl _ _ _, rp, fun d hd => ?_⟩
    have y2 := y vs (.inl ((l1.trans rp.bs.fh).rd h))
    obtain ⟨d', hd', rd⟩ := r.getV y2
    rw [hd] at hd'
    cases hd'
    exact rd.mono l1
  · exact ⟨vs, .inl ((l1.trans l2).rd h), Nat.le_of_eq r.len⟩
theorem walks_tup {a : Addr} {vs : List V} {ds : List D} (h : SqT K F a vs) (r : RepDs K F vs ds) : Walks K (Itt K a) ds F := by
  refine ⟨fun i H F' l1 l2 hi => ?_, fun i H F' O σ S x H' rp l1 hi y => ?_, fun H F' l1 l2 => ?_⟩
  · have hi' : i < vs.length := by rw [r.len]; exact hi
    exact ⟨vs, vs[i], (l1.trans l2).st h, List.getElem?_eq_getElem hi'⟩
  · obtain ⟨e, y⟩ := y
    subst e
    refine ⟨F', Stp.refl _ _ _, rp, fun d hd => ?_⟩
    have y2 := y vs ((l1.trans rp.bs.fh).st h)
    obtain ⟨d', hd', rd⟩ := r.getV y2
    rw [hd] at hd'
    cases hd'
    exact rd.mono l1
  · exact ⟨vs, (l1.trans l2).st h, Nat.le_of_eq r.len⟩
/-- lo, lo + 1, .. -/
noncomputable def rangeD (lo : Int) (n : Nat) : List D := (List.range n).map fun (k : Nat) => .int (lo + (k : Int))
theorem walks_range {lo : Int} {n : Nat} : Walks K (Itr lo n) (rangeD lo n) F := by
  have hl : (rangeD lo n).length = n := by unfold rangeD; rw [List.length_map, List.length_range]
  refine ⟨fun i H F' l1 l2 hi => ?_, fun i H F' O σ S x H' rp l1 hi y => ?_, fun H F' l1 l2 => ?_⟩
  · rw [hl] at hi; exact hi
  · obtain ⟨e, y⟩ := y
    subst e y
    refine ⟨F', Stp.refl _ _ _, rp, fun d hd => ?_⟩
    unfold rangeD at hd
    rw [List.getElem?_map, List.getElem?_range (by rw [hl] at hi; exact hi)] at hd
    cases hd
    exact .int _
  · show n ≤ (rangeD lo n).length
    rw [hl]; exact Nat.le_refl _
theorem di_any {X : Cx} {f : FI} {tg iter : Expr} (h : DI X f iter) : PI X tg iter (rdI (kg X) f) := h tg
/-- the signs of a text -/
noncomputable def strSeq (x : Str) : List D := x.cps.toList.map fun c => .str ⟨#[c]⟩
theorem walks_str {x : Str} : Walks K (Its x) (strSeq x) F := by
  have hl : (strSeq x).length = x.cps.size := by unfold strSeq; simp
  refine ⟨fun i H F' l1 l2 hi => ?_, fun i H F' O σ S v H' rp l1 hi y => ?_, fun H F' l1 l2 => ?_⟩
  · rw [hl] at hi; exact hi
  · obtain ⟨e, c, hc, ev⟩ := y
    subst e ev
    refine ⟨F', Stp.refl _ _ _, rp, fun d hd => ?_⟩
    unfold strSeq at hd
    rw [List.getElem?_map, Array.getElem?_toList, hc] at hd
    cases hd
    exact .str _
  · show x.cps.size ≤ (strSeq x).length
    rw [hl]; exact Nat.le_refl _
end
section
variable {X : Cx} {kp : Nat → Bool} {e a b : Expr} {pos : Pos} {st : Stmt} {rest : List Stmt} {f g : FS}
/-- a list, a tuple or a text, walked -/
noncomputable def iSeq (f : FE) : FI := fun S => (f S).bind fun o S => match force o S with
  | some (.lst ds, S1) => .ok ds S1
  | some (.tup ds, S1) => .ok ds S1
  | some (.str x, S1) => .ok (strSeq x) S1
  | _ => .no
theorem di_seq {f : FE} (h : DE X f e) : DI X (iSeq f) e := fun tg => by
  refine PI.imp (PI.or (pi_list h) (PI.or (pi_tup h) (pi_str h))) fun σ H R' ⟨F, O, S, ds, S', r, hf, k⟩ => ?_
  obtain ⟨o, S1, h1, h2⟩ := R.bind_ok hf
  cases ef : force o S1 with
  | none => rw [ef] at h2; cases h2
  | some z =>
    obtain ⟨d, S2⟩ := z
    rw [ef] at h2
    cases d with
    | lst xs =>
      cases h2
      refine .inl ⟨F, O, S, o, S1, r, h1, fun v H1 F1 O1 st1 r1 ro => ?_⟩
      obtain ⟨F2, O2, st2, r2, rd⟩ := force_ok r1 ro ef
      cases rd with
      | @lst a vs _ hs rds => exact ⟨a, rfl, ⟨vs, .inl (r2.bs.fh.rd hs)⟩, k _ H1 F2 O2 (st1.trans st2) r2 (walks_list hs rds)⟩
    | tup xs =>
      cases h2
      refine .inr (.inl ⟨F, O, S, o, S1, r, h1, fun v H1 F1 O1 st1 r1 ro => ?_⟩)
      obtain ⟨F2, O2, st2, r2, rd⟩ := force_ok r1 ro ef
      cases rd with
      | @tup a vs _ hs rds => exact ⟨a, rfl, ⟨vs, r2.bs.fh.st hs.sq⟩, k _ H1 F2 O2 (st1.trans st2) r2 (walks_tup hs.sq rds)⟩
    | str x =>
      cases h2
      refine .inr (.inr ⟨F, O, S, o, S1, r, h1, fun v H1 F1 O1 st1 r1 ro => ?_⟩)
      obtain ⟨F2, O2, st2, r2, rd⟩ := force_ok r1 ro ef
      cases rd with
      | str _ => exact ⟨x, rfl, k _ H1 F2 O2 (st1.trans st2) r2 walks_str⟩
    | _ => cases h2
noncomputable def iRng1 (f : FE) : FI := fun S => (f S).bind fun o S => match o.get S with
  | some (.int j) => if -4611686018427387904 ≤ j ∧ j < 4611686018427387904 then .ok (rangeD 0 j.toNat) S else .no
  | _ => .no
theorem di_rng1 {f : FE} {p : Pos} (hg : Gl X "range") (hm : X.mg "range" = none) (h : DE X f a) (hs : starEach [a] X.env = [(false, eval a X.env)] := by rfl) (hs2 : starEach [a] X.env = (false, eval a X.env) :: starEach [] X.env := by rfl) : DI X (iRng1 f) (.Call (.Name "range" p) [a] [] pos) := fun tg => by
  refine PI.imp (pi_range1 hg hm (pa_cons h pa_nil hs2) hs) fun σ H R' ⟨F, O, S, ds, S', r, hf, k⟩ => ?_
  obtain ⟨o, S1, h1, h2⟩ := R.bind_ok hf
  refine ⟨F, O, S, o, S1, r, h1, fun v H1 F1 O1 st1 r1 ro => ?_⟩
  cases eg : o.get S1 with
  | none => rw [eg] at h2; cases h2
  | some d =>
    rw [eg] at h2
    cases d with
    | int j =>
      dsimp only at h2
      split at h2
      · rename_i hb
        cases h2
        obtain rfl := (r1.view ro eg).int
        exact ⟨j, rfl, hb.1, hb.2, k _ H1 F1 O1 st1 r1 walks_range⟩
      · cases h2
    | _ => cases h2
/-! ### for -/
noncomputable def forL (g : FG) (body : FS) : List D → SS → R Fl
  | [], S => .ok .nx S
  | d :: ds, S => match g d S with
    | none => .no
    | some S1 => (body S1).bind fun fl S2 => match fl with
      | .nx => forL g body ds S2
      | .ct => forL g body ds S2
      | .bk => .ok .nx S2
      | .rt m => .ok (.rt m) S2
noncomputable def sFor (i : FI) (g : FG) (body : FS) : FS := fun S => (i S).bind fun ds S => forL g body ds S
theorem ds_for {iter tg : Expr} {sts : List Stmt} {i : FI} {g : FG} (hp : PassesOwn (model X.prog X.w) X.A X.env X.xe) (hc : X.calm = true) (hi : PI X tg iter (rdI (kg X) i)) (hg : DG X kp g tg) (hb : DSs X kp f sts)
    (hs : ∀ x, foldedSetIterable iter X.env x = pure x := by intro _; rfl) : DS X kp (sFor i g f) (.For tg iter sts [] pos) := PS.imp (ps_for hp hc hi hg hb hs) fun D σ H ⟨F, O, S, fl, S', r, hf, k⟩ => by
  obtain ⟨ds, S1, h1, h2⟩ := R.bind_ok hf
  refine ⟨F, O, S, ds, S1, r, h1, fun J H1 F1 O1 st1 r1 wk => ?_⟩
  refine ⟨fun n m σ' H' => m = ds.length - n ∧ n ≤ ds.length ∧ ∃ F' O' S2, Stp H F O H' F' O' ∧ Rp (kg X) H' F' O' σ' S2 ∧ Le F1 F' ∧ Kp kp σ σ' ∧ forL g f (ds.drop n) S2 = .ok fl S', ⟨ds.length, rfl, Nat.zero_le _, F1, O1, S1, st1, r1, Le.refl _, Kp.refl _ _, h2⟩, ?_⟩
  rintro n m σ' H' ⟨rfl, hn, F', O', S2, st2, r2, l2, k2, hw⟩
  by_cases hlt : n < ds.length
  · refine .inr ⟨wk.go n H' F' l2 r2.bs.fh hlt, ?_⟩
    rw [List.drop_eq_getElem_cons hlt] at hw
    have hw : (match g ds[n] S2 with | none => .no | some S1 => (f S1).bind fun fl S2 => match fl with | .nx => forL g f (ds.drop (n + 1)) S2 | .ct => forL g f (ds.drop (n + 1)) S2 | .bk => .ok .nx S2 | .rt m => .ok (.rt m) S2) = R.ok fl S' := hw
    cases eg : g ds[n] S2 with
    | none => rw [eg] at hw; cases hw
    | some S3 =>
      rw [eg] at hw
      dsimp only at hw
      obtain ⟨fl4, S4, h3, h4⟩ := R.bind_ok hw
      refine ⟨fun σ5 H5 => ∃ F5 O5 S5, Stp H F O H5 F5 O5 ∧ Rp (kg X) H5 F5 O5 σ5 S5 ∧ Le F1 F5 ∧ Kp kp σ σ5 ∧ forL g f (ds.drop (n + 1)) S5 = .ok fl S', fun σ5 H5 q => ⟨ds.length - (n + 1), by omega, rfl, hlt, q⟩, fun x H5 y => ?_⟩
      obtain ⟨F5, st5, r5, rx⟩ := wk.yld n H' F' O' σ' S2 x H5 r2 l2 hlt y
      refine ⟨F5, O', S2, ds[n], S3, r5, rx _ (List.getElem?_eq_getElem hlt), eg, fun σ6 F6 O6 st6 r6 k6 => ⟨F6, O6, S3, fl4, S4, r6, h3, ?_⟩⟩
      have stA := st2.trans (st5.trans st6)
      have lA : Le F1 F6 := l2.trans (st5.ff.trans st6.ff)
      cases fl4 with
      | nx => exact fun σ7 H7 F7 O7 st7 r7 k7 => ⟨F7, O7, S4, stA.trans st7, r7, lA.trans st7.ff, (k2.trans k6).trans k7, h4⟩
      | ct => exact fun σ7 H7 F7 O7 st7 r7 k7 => ⟨F7, O7, S4, stA.trans st7, r7, lA.trans st7.ff, (k2.trans k6).trans k7, h4⟩
      | bk =>
        cases h4
        exact fun σ7 H7 F7 O7 st7 r7 k7 => k σ7 H7 F7 O7 (stA.trans st7) r7 ((k2.trans k6).trans k7)
      | rt m =>
        cases h4
        exact fun v σ7 H7 F7 O7 st7 r7 k7 rm => k v σ7 H7 F7 O7 (stA.trans st7) r7 ((k2.trans k6).trans k7) rm
  · have e : n = ds.length := by omega
    subst e
    rw [List.drop_length] at hw
    cases hw
    exact .inl ⟨wk.stop H' F' l2 r2.bs.fh, k σ' H' F' O' st2 r2 k2⟩

/-! ### while -/
noncomputable def whN (c : FB) (body : FS) : Nat → SS → R Fl
  | 0, _ => .no
  | n + 1, S => (c S).bind fun b S1 => if b = true then (body S1).bind fun fl S2 => (match fl with
      | .nx => whN c body n S2
      | .ct => whN c body n S2
      | .bk => .ok .nx S2
      | .rt m => .ok (.rt m) S2) else .ok .nx S1
open Classical in
noncomputable def sWhile (c : FB) (body : FS) : FS := fun S => if h : ∃ n, whN c body n S ≠ .no then whN c body h.choose S else .no
theorem whN_mono {c : FB} {body : FS} : ∀ {n : Nat} {S : SS} {r : R Fl}, whN c body n S = r → r ≠ .no → whN c body (n + 1) S = r
  | 0, S, r, h, hn => absurd h.symm hn
  | n + 1, S, r, h, hn => by
    show (c S).bind _ = r
    have h : ((c S).bind fun b S1 => if b = true then (body S1).bind fun fl S2 => (match fl with | .nx => whN c body n S2 | .ct => whN c body n S2 | .bk => .ok .nx S2 | .rt m => .ok (.rt m) S2) else .ok .nx S1) = r := h
    cases e1 : c S with
    | ex x S1 => rw [e1] at h; exact h
    | no => rw [e1] at h; exact h
    | ok b S1 =>
      rw [e1] at h
      show (if b = true then (body S1).bind _ else _) = r
      have h : (if b = true then (body S1).bind fun fl S2 => (match fl with | .nx => whN c body n S2 | .ct => whN c body n S2 | .bk => .ok .nx S2 | .rt m => .ok (.rt m) S2) else .ok .nx S1) = r := h
      cases b with
      | false => exact h
      | true =>
        rw [if_pos rfl] at h ⊢
        cases e2 : body S1 with
        | ex x S2 => rw [e2] at h; exact h
        | no => rw [e2] at h; exact h
        | ok fl S2 =>
          rw [e2] at h
          cases fl with
          | nx => exact whN_mono (n := n) h hn
          | ct => exact whN_mono (n := n) h hn
          | bk => exact h
          | rt m => exact h
theorem whN_le {c : FB} {body : FS} {n m : Nat} {S : SS} {r : R Fl} (h : whN c body n S = r) (hn : r ≠ .no) (hl : n ≤ m) : whN c body m S = r := by
  induction hl with
  | refl => exact h
  | step _ ih => exact whN_mono ih hn
theorem sWhile_of {c : FB} {body : FS} {n : Nat} {S : SS} {r : R Fl} (h : whN c body n S = r) (hn : r ≠ .no) : sWhile c body S = r := by
  have hx : ∃ n, whN c body n S ≠ .no := ⟨n, by rw [h]; exact hn⟩
  unfold sWhile
  rw [dif_pos hx]
  have h2 := hx.choose_spec
  rcases Nat.le_total n hx.choose with l | l
  · exact whN_le h hn l
  · exact (whN_le rfl h2 l).symm.trans h
theorem sWhile_at {c : FB} {body : FS} {S : SS} {r : R Fl} (h : sWhile c body S = r) (hn : r ≠ .no) : ∃ n, whN c body n S = r := by
  unfold sWhile at h
  split at h
  · exact ⟨_, h⟩
  · exact absurd h.symm hn
/-- one turn -/
theorem sWhile_eq (c : FB) (body : FS) (S : SS) : sWhile c body S = (c S).bind fun b S1 => if b = true then (body S1).bind fun fl S2 => (match fl with
      | .nx => sWhile c body S2
      | .ct => sWhile c body S2
      | .bk => .ok .nx S2
      | .rt m => .ok (.rt m) S2) else .ok .nx S1 := by
  have key : ∀ r : R Fl, r ≠ .no → ((c S).bind fun b S1 => if b = true then (body S1).bind fun fl S2 => (match fl with | .nx => sWhile c body S2 | .ct => sWhile c body S2 | .bk => .ok .nx S2 | .rt m => .ok (.rt m) S2) else .ok .nx S1) = r → sWhile c body S = r := by
    intro r hn h
    have mk : ∀ n, ((c S).bind fun b S1 => if b = true then (body S1).bind fun fl S2 => (match fl with | .nx => whN c body n S2 | .ct => whN c body n S2 | .bk => .ok .nx S2 | .rt m => .ok (.rt m) S2) else .ok .nx S1) = r → sWhile c body S = r := fun n h => sWhile_of (n := n + 1) h hn
    cases e1 : c S with
    | ex x S1 => rw [e1] at h mk; exact mk 0 h
    | no => rw [e1] at h mk; exact mk 0 h
    | ok b S1 =>
      rw [e1] at h mk
      cases b with
      | false => exact mk 0 h
      | true =>
        dsimp only [R.bind] at h mk
        rw [if_pos rfl] at h
        simp only [if_true] at mk
        cases e2 : body S1 with
        | ex x S2 => rw [e2] at h mk; exact mk 0 h
        | no => rw [e2] at h mk; exact mk 0 h
        | ok fl S2 =>
          rw [e2] at h mk
          cases fl with
          | nx =>
            obtain ⟨n, hn'⟩ := sWhile_at (r := r) h hn
            exact mk n hn'
          | ct =>
            obtain ⟨n, hn'⟩ := sWhile_at (r := r) h hn
            exact mk n hn'
          | bk => exact mk 0 h
          | rt m => exact mk 0 h
  by_cases hz : sWhile c body S = .no
  · rw [hz]
    by_cases hy : ((c S).bind fun b S1 => if b = true then (body S1).bind fun fl S2 => (match fl with | .nx => sWhile c body S2 | .ct => sWhile c body S2 | .bk => .ok .nx S2 | .rt m => .ok (.rt m) S2) else .ok .nx S1) = .no
    · exact hy.symm
    · exact hz.symm.trans (key _ hy rfl)
  · obtain ⟨n, hn⟩ := sWhile_at (r := sWhile c body S) rfl hz
    refine Eq.symm ?_
    cases n with
    | zero => exact absurd hn.symm hz
    | succ n =>
      have hn2 : ((c S).bind fun b S1 => if b = true then (body S1).bind fun fl S2 => (match fl with | .nx => whN c body n S2 | .ct => whN c body n S2 | .bk => .ok .nx S2 | .rt m => .ok (.rt m) S2) else .ok .nx S1) = sWhile c body S := hn
      generalize sWhile c body S = r at hn2 hz
      cases e1 : c S with
      | ex x S1 => rw [e1] at hn2; exact hn2
      | no => rw [e1] at hn2; exact hn2
      | ok b S1 =>
        rw [e1] at hn2
        cases b with
        | false => exact hn2
        | true =>
          dsimp only [R.bind] at hn2 ⊢
          rw [if_pos rfl] at hn2 ⊢
          cases e2 : body S1 with
          | ex x S2 => rw [e2] at hn2; exact hn2
          | no => rw [e2] at hn2; exact hn2
          | ok fl S2 =>
            rw [e2] at hn2
            cases fl with
            | nx => exact sWhile_of hn2 hz
            | ct => exact sWhile_of hn2 hz
            | bk => exact hn2
            | rt m => exact hn2
theorem ds_while {c : Expr} {sts : List Stmt} {t : FB} (hp : PassesOwn (model X.prog X.w) X.A X.env X.xe) (hc : DT X t c) (hb : DSs X kp f sts) : DS X kp (sWhile t f) (.While c sts [] pos) := PS.imp (ps_while hp hc hb) fun D σ H ⟨F, O, S, fl, S', r, hf, k⟩ => by
  obtain ⟨n0, h0⟩ := sWhile_at hf (by intro z; cases z)
  refine ⟨fun n σ' H' => ∃ F' O' S1, Stp H F O H' F' O' ∧ Rp (kg X) H' F' O' σ' S1 ∧ Kp kp σ σ' ∧ whN t f n S1 = .ok fl S', ⟨n0, F, O, S, Stp.refl _ _ _, r, Kp.refl _ _, h0⟩, ?_⟩
  rintro n σ' H' ⟨F', O', S1, st1, r1, k1, hw⟩
  cases n with
  | zero => cases hw
  | succ n =>
    have hw : ((t S1).bind fun b S1 => if b = true then (f S1).bind fun fl S2 => (match fl with | .nx => whN t f n S2 | .ct => whN t f n S2 | .bk => .ok .nx S2 | .rt m => .ok (.rt m) S2) else .ok .nx S1) = .ok fl S' := hw
    obtain ⟨b, S2, h1, h2⟩ := R.bind_ok hw
    refine ⟨F', O', S1, b, S2, r1, h1, fun H2 F2 O2 st2 r2 => ?_⟩
    cases b with
    | false =>
      cases h2
      exact k σ' H2 F2 O2 (st1.trans st2) r2 k1
    | true =>
      rw [if_pos rfl] at h2
      obtain ⟨fl4, S4, h3, h4⟩ := R.bind_ok h2
      refine ⟨fun σ5 H5 => ∃ F5 O5 S5, Stp H F O H5 F5 O5 ∧ Rp (kg X) H5 F5 O5 σ5 S5 ∧ Kp kp σ σ5 ∧ whN t f n S5 = .ok fl S', fun σ5 H5 q => ⟨n, Nat.lt_succ_self _, q⟩, F2, O2, S2, fl4, S4, r2, h3, ?_⟩
      have stA := st1.trans st2
      cases fl4 with
      | nx => exact fun σ7 H7 F7 O7 st7 r7 k7 => ⟨F7, O7, S4, stA.trans st7, r7, k1.trans k7, h4⟩
      | ct => exact fun σ7 H7 F7 O7 st7 r7 k7 => ⟨F7, O7, S4, stA.trans st7, r7, k1.trans k7, h4⟩
      | bk =>
        cases h4
        exact fun σ7 H7 F7 O7 st7 r7 k7 => k σ7 H7 F7 O7 (stA.trans st7) r7 (k1.trans k7)
      | rt m =>
        cases h4
        exact fun v σ7 H7 F7 O7 st7 r7 k7 rm => k v σ7 H7 F7 O7 (stA.trans st7) r7 (k1.trans k7) rm
end

/-! ### comprehensions -/
noncomputable def wipeS (S : SS) : List Nat → SS
  | [] => S
  | v :: vs => (wipeS S vs).set v none
noncomputable def keepD : Option M → Option M
  | some (.d x) => some (.d x)
  | _ => none
noncomputable def restS (S1 S2 : SS) : List Nat → SS
  | [] => S2
  | v :: vs => (restS S1 S2 vs).set v (keepD (S1.at v))
theorem wipeS_len (S : SS) : ∀ vs, (wipeS S vs).length = S.length
  | [] => rfl
  | v :: vs => by show ((wipeS S vs).set v none).length = _; rw [List.length_set, wipeS_len S vs]
theorem restS_len (S1 S2 : SS) : ∀ vs, (restS S1 S2 vs).length = S2.length
  | [] => rfl
  | v :: vs => by show ((restS S1 S2 vs).set v _).length = _; rw [List.length_set, restS_len S1 S2 vs]
theorem wipeS_at {S : SS} {j : Nat} {m : M} : ∀ {vs : List Nat}, (wipeS S vs).at j = some m → j ∉ vs ∧ S.at j = some m
  | [], h => ⟨by simp, h⟩
  | v :: vs, h => by
    rcases SS.at_set h with ⟨_, e⟩ | ⟨ne, h⟩
    · cases e
    · obtain ⟨h1, h2⟩ := wipeS_at h
      exact ⟨by simp only [List.mem_cons, not_or]; exact ⟨fun e => ne e.symm, h1⟩, h2⟩
theorem wipeS_out {S : SS} {j : Nat} : ∀ {vs : List Nat}, j ∉ vs → (wipeS S vs).at j = S.at j
  | [], _ => rfl
  | v :: vs, h => by
    simp only [List.mem_cons, not_or] at h
    show SS.at ((wipeS S vs).set v none) j = _
    rw [SS.set_ne (fun e => h.1 e.symm), wipeS_out h.2]
theorem restS_at {S1 S2 : SS} {j : Nat} {m : M} : ∀ {vs : List Nat}, (restS S1 S2 vs).at j = some m → (∃ x, m = .d x ∧ S1.at j = some (.d x)) ∨ (j ∉ vs ∧ S2.at j = some m)
  | [], h => .inr ⟨by simp, h⟩
  | v :: vs, h => by
    rcases SS.at_set h with ⟨ev, e⟩ | ⟨ne, h⟩
    · subst ev
      cases e1 : S1.at v with
      | none => rw [e1] at e; cases e
      | some n =>
        rw [e1] at e
        cases n with
        | d x => cases e; exact .inl ⟨x, rfl, rfl⟩
        | lst _ => cases e
        | _ => cases e
    · rcases restS_at h with h | ⟨h1, h2⟩
      · exact .inl h
      · exact .inr ⟨by simp only [List.mem_cons, not_or]; exact ⟨fun e => ne e.symm, h1⟩, h2⟩
theorem wipe_get {σ : St} {j : Nat} {v : V} : ∀ {vs : List Nat}, j ∉ vs → σ[j]? = some (some v) → (wipe σ vs)[j]? = some (some v)
  | [], _, h => h
  | u :: vs, hj, h => by
    simp only [List.mem_cons, not_or] at hj
    show ((wipe σ vs).set u none)[j]? = _
    rw [List.getElem?_set_ne (fun e => hj.1 e.symm)]
    exact wipe_get hj.2 h
section
variable {K : KG} {H F H' F' : Hp} {O O' : OW} {σ : St} {S S1 S2 : SS} {vs : List Nat}
theorem Rp.wipe (r : Rp K H F O σ S) : Rp K H F O (L2.wipe σ vs) (wipeS S vs) := by
  refine ⟨r.bs, by rw [wipeS_len, wipe_length]; exact r.len, fun j m h => ?_⟩
  obtain ⟨hj, h⟩ := wipeS_at h
  obtain ⟨v, hv, rm⟩ := r.sl j m h
  exact ⟨v, wipe_get hj hv, rm⟩
theorem Rp.rest (r1 : Rp K H F O σ S1) (l : Le F F') (r : Rp K H' F' O' (L2.wipe σ vs) (wipeS S2 vs)) : Rp K H' F' O' σ (restS S1 S2 vs) := by
  refine ⟨r.bs, ?_, fun j m h => ?_⟩
  · have e := r.len
    rw [wipeS_len, wipe_length] at e
    rw [restS_len]; exact e
  · rcases restS_at h with ⟨x, em, h1⟩ | ⟨hj, h2⟩
    · subst em
      obtain ⟨v, hv, rm⟩ := r1.sl j _ h1
      exact ⟨v, hv, RepD.mono l rm⟩
    · obtain ⟨v, hv, rm⟩ := r.sl j m (by rw [wipeS_out hj]; exact h2)
      exact ⟨v, (wipe_some hv).1, rm⟩
/-- an object that is nobody's -/
theorem Stp.limbo {p : Addr} {o : HO} (st : Stp H F O H' F' O') (h : H p = some o) (hF : F p = none) (hO : O p = none) : H' p = some o ∧ F' p = none ∧ O' p = none := by
  refine ⟨st.kp p o h hO, ?_, ?_⟩
  · cases e : F' p with
    | none => rfl
    | some u =>
      rcases st.fz p u e with z | ⟨q, z⟩ | z
      · rw [hF] at z; cases z
      · rw [hO] at z; cases z
      · rw [h] at z; cases z
  · cases e : O' p with
    | none => rfl
    | some u =>
      rcases st.nw p u e with ⟨q, z⟩ | z
      · rw [hO] at z; cases z
      · rw [h] at z; cases z
theorem Rp.limbo {p : Addr} {o : HO} (r : Rp K H F O σ S) (hF : F p = none) (hO : O p = none) : Rp K (upd H p o) F O σ S := by
  have lf : Le F (upd H p o) := fun a u e => by
    rw [upd_ne (ne_of_none e hF)]
    exact r.bs.fh a u e
  have lo : ∀ {a : Addr} {q : Pl}, O a = some q → a ≠ p := fun {a q} e z => by rw [z, hO] at e; cases e
  refine ⟨⟨lf, fun a q e => ?_⟩, r.len, fun i m e => ?_⟩
  · obtain ⟨h1, u, h2⟩ := r.bs.fo a q e
    exact ⟨h1, u, by rw [upd_ne (lo e)]; exact h2⟩
  · obtain ⟨v, hv, rm⟩ := r.sl i m e
    exact ⟨v, hv, rm.stay (Le.refl _) fun a u _ e1 e2 => ⟨by rw [upd_ne (lo e1)]; exact e2, e1⟩⟩
/-- a step, an object that was not there at its start changed -/
theorem Stp.upd {p : Addr} {o : HO} (st : Stp H F O H' F' O') (h : H p = none) : Stp H F O (L2.upd H' p o) F' O' :=
  ⟨st.ff, fun a u e e2 => by rw [upd_ne (ne_of_none e h)]; exact st.kp a u e e2, st.nw, st.fz, fun a u e => let ⟨u', e'⟩ := st.al a u e; ⟨u', by rw [upd_ne (ne_of_none e h)]; exact e'⟩⟩
theorem Rp.claim {p : Addr} {vs' : List V} {ds : List D} (r : Rp K H F O σ S) (hF : F p = none) (hO : O p = none) (hH : H p = some (.lst vs')) (rd : RepDs K F vs' ds) : Rp K H F (ownR O p (.r, [])) σ S ∧ RepM K H F (ownR O p (.r, [])) (.r, []) (.ref p) (.lst ds) := by
  have lo : ∀ {a : Addr} {q : Pl}, O a = some q → a ≠ p := fun {a q} e z => by rw [z, hO] at e; cases e
  refine ⟨⟨⟨r.bs.fh, fun a q e => ?_⟩, r.len, fun i m e => ?_⟩, p, vs', rfl, if_pos rfl, hH, rd⟩
  · unfold ownR at e
    split at e
    · rename_i z; subst z; exact ⟨hF, _, hH⟩
    · exact r.bs.fo a q e
  · obtain ⟨v, hv, rm⟩ := r.sl i m e
    exact ⟨v, hv, rm.stay (Le.refl _) fun a u _ e1 e2 => ⟨e2, by unfold ownR; rw [if_neg (lo e1)]; exact e1⟩⟩
end
noncomputable def lcL (own : List Nat) (g : FG) (t : FB) (fe : FE) : List D → SS → List D → R (List D)
  | [], S, acc => .ok acc S
  | d :: ds, S, acc => match g d (wipeS S own) with
    | none => .no
    | some S1 => (t S1).bind fun b S2 => if b = true then (fe S2).bind fun o S3 => (match force o S3 with
        | some (x, S4) => if acc.length < line then lcL own g t fe ds S4 (acc ++ [x]) else .no
        | none => .no) else lcL own g t fe ds S2 acc
noncomputable def mLc (own : List Nat) (fi : FI) (g : FG) (t : FB) (fe : FE) : FM := fun S => (fi S).bind fun ds S1 => (lcL own g t fe ds S1 []).bind fun acc S2 => .ok (.lst acc) (restS S1 S2 own)
noncomputable def kpo (own : List Nat) (i : Nat) : Bool := !own.contains i
theorem wipe_same {σ σ2 : St} {own : List Nat} (h : Kp (kpo own) (wipe σ own) σ2) : wipe σ2 own = wipe σ own := by
  have out : ∀ {σ : St} {j : Nat} {vs : List Nat}, j ∉ vs → (wipe σ vs)[j]? = σ[j]? := fun {σ j vs} hj => by
    induction vs with
    | nil => rfl
    | cons u vs ih =>
      simp only [List.mem_cons, not_or] at hj
      show ((wipe σ vs).set u none)[j]? = _
      rw [List.getElem?_set_ne (fun e => hj.1 e.symm), ih hj.2]
  have inn : ∀ {σ : St} {j : Nat} {vs : List Nat}, j ∈ vs → (wipe σ vs)[j]? = if j < σ.length then some none else none := fun {σ j vs} hj => by
    induction vs with
    | nil => cases hj
    | cons u vs ih =>
      show ((wipe σ vs).set u none)[j]? = _
      by_cases e : u = j
      · subst e
        by_cases hl : u < σ.length
        · rw [List.getElem?_set_self (by rw [wipe_length]; exact hl), if_pos hl]
        · rw [if_neg hl, List.getElem?_eq_none (by rw [List.length_set, wipe_length]; omega)]
      · rw [List.getElem?_set_ne e]
        exact ih (by rcases List.mem_cons.mp hj with z | z; exact absurd z.symm e; exact z)
  apply List.ext_getElem?
  intro j
  by_cases hj : j ∈ own
  · rw [inn hj, inn hj, h.1, wipe_length]
  · rw [out hj, out hj]
    have := h.2 j (by unfold kpo; simpa using hj)
    rw [this, out hj]
theorem lc_rd {K : KG} {own : List Nat} {fi : FI} {g : FG} {t : FB} {fe : FE} {σ : St} {H : Hp} {Q : VK} (h : rdM K (mLc own fi g t fe) σ H Q) :
    tLc (rdI K fi) (rdG K (kpo own) g) (rdT K t) (rdE K fe) own σ H Q := by
  obtain ⟨F, O, S, m, S', r, hf, k⟩ := h
  obtain ⟨ds, S1, h1, h2⟩ := R.bind_ok hf
  obtain ⟨accf, Sf, h3, h4⟩ := R.bind_ok h2
  cases h4
  refine ⟨F, O, S, ds, S1, r, h1, fun J H1 F1 O1 st1 r1 wk L hL => ?_⟩
  have hHL : H L = none := by
    cases e : H L with
    | none => rfl
    | some o =>
      obtain ⟨u, hu⟩ := st1.al L o e
      rw [hL] at hu; cases hu
  obtain ⟨hF1, hO1⟩ := r1.bs.free hL
  have r1w : Rp K (upd H1 L (.lst [])) F1 O1 (wipe σ own) (wipeS S1 own) := (Rp.limbo r1 hF1 hO1).wipe
  refine ⟨fun n m H' => m = ds.length - n ∧ n ≤ ds.length ∧ ∃ F' O' S2 acc vs, Stp H F O H' F' O' ∧ Rp K H' F' O' (wipe σ own) (wipeS S2 own) ∧ Le F1 F' ∧ F' L = none ∧ O' L = none ∧ H' L = some (.lst vs) ∧ RepDs K F' vs acc ∧
    lcL own g t fe (ds.drop n) S2 acc = .ok accf Sf, ⟨ds.length, rfl, Nat.zero_le _, F1, O1, S1, [], [], st1.upd hHL, r1w, Le.refl _, hF1, hO1, upd_same, .nil, h3⟩, ?_⟩
  rintro n m H' ⟨rfl, hn, F', O', S2, acc, vs, st2, r2, l2, hF, hO, hH, rv, hw⟩
  by_cases hlt : n < ds.length
  · refine .inr ⟨wk.go n H' F' l2 r2.bs.fh hlt, ?_⟩
    rw [List.drop_eq_getElem_cons hlt] at hw
    have hw : (match g ds[n] (wipeS S2 own) with
      | none => .no
      | some S1 => (t S1).bind fun b S2 => if b = true then (fe S2).bind fun o S3 => (match force o S3 with
        | some (x, S4) => if acc.length < line then lcL own g t fe (ds.drop (n + 1)) S4 (acc ++ [x]) else .no
        | none => .no) else lcL own g t fe (ds.drop (n + 1)) S2 acc) = R.ok accf Sf := hw
    cases eg : g ds[n] (wipeS S2 own) with
    | none => rw [eg] at hw; cases hw
    | some S3 =>
      rw [eg] at hw
      dsimp only at hw
      obtain ⟨b, S4, h5, h6⟩ := R.bind_ok hw
      refine ⟨fun H5 => ∃ F5 O5 S5 acc vs, Stp H F O H5 F5 O5 ∧ Rp K H5 F5 O5 (wipe σ own) (wipeS S5 own) ∧ Le F1 F5 ∧ F5 L = none ∧ O5 L = none ∧ H5 L = some (.lst vs) ∧ RepDs K F5 vs acc ∧
        lcL own g t fe (ds.drop (n + 1)) S5 acc = .ok accf Sf, fun H5 q => ⟨ds.length - (n + 1), by omega, rfl, hlt, q⟩, fun x H5 y => ?_⟩
      obtain ⟨F5, st5, r5, rx⟩ := wk.yld n H' F' O' _ _ x H5 r2 l2 hlt y
      refine ⟨F5, O', _, ds[n], S3, r5, rx _ (List.getElem?_eq_getElem hlt), eg, fun σ6 F6 O6 st6 r6 k6 => ⟨wipe_same k6, F6, O6, S3, b, S4, r6, h5, fun H7 F7 O7 st7 r7 => ?_⟩⟩
      have stB := st5.trans (st6.trans st7)
      have stA := st2.trans stB
      have lA : Le F1 F7 := l2.trans stB.ff
      obtain ⟨hH7, hF7, hO7⟩ := stB.limbo hH hF hO
      cases b with
      | false =>
        rw [if_neg (by decide)] at h6
        show (if false = true then _ else _)
        rw [if_neg (by decide)]
        have rw7 := r7.wipe (vs := own)
        rw [wipe_same k6] at rw7
        exact ⟨F7, O7, S4, acc, vs, stA, rw7, lA, hF7, hO7, hH7, rv.mono stB.ff, h6⟩
      | true =>
        rw [if_pos rfl] at h6
        show (if true = true then _ else _)
        rw [if_pos rfl]
        obtain ⟨o, S5, h7, h8⟩ := R.bind_ok h6
        refine ⟨F7, O7, S4, o, S5, r7, h7, fun y8 H8 F8 O8 st8 r8 ro => ?_⟩
        cases ef : force o S5 with
        | none => rw [ef] at h8; cases h8
        | some z =>
          obtain ⟨d, S6⟩ := z
          rw [ef] at h8
          dsimp only at h8
          split at h8
          · rename_i hlen
            obtain ⟨F9, O9, st9, r9, rd⟩ := force_ok r8 ro ef
            have st89 := st8.trans st9
            obtain ⟨hH9, hF9, hO9⟩ := st89.limbo hH7 hF7 hO7
            have rvA : RepDs K F9 vs acc := rv.mono (stB.ff.trans st89.ff)
            refine ⟨vs, hH9, by rw [rv.len, ← line_eq]; exact hlen, ?_⟩
            have r10 := (Rp.limbo (o := .lst (vs ++ [y8])) r9 hF9 hO9).wipe (vs := own)
            rw [wipe_same k6] at r10
            exact ⟨F9, O9, S6, acc ++ [d], vs ++ [y8], (stA.trans st89).upd hHL, r10, lA.trans st89.ff, hF9, hO9, upd_same, rvA.snoc rd, h8⟩
          · cases h8
  · have e : n = ds.length := by omega
    subst e
    rw [List.drop_length] at hw
    cases hw
    refine .inl ⟨wk.stop H' F' l2 r2.bs.fh, ?_⟩
    obtain ⟨rc, rm⟩ := (r1.rest l2 r2).claim hF hO hH rv
    refine k (.ref L) H' F' _ ⟨st2.ff, st2.kp, fun a q e => ?_, st2.fz, st2.al⟩ rc rm
    unfold ownR at e
    split at e
    · rename_i z; subst z; exact .inr hHL
    · exact st2.nw a q e
noncomputable abbrev DTs (X : Cx) (t : FB) (ifs : List Expr) : Prop := PTs X ifs (rdT (kg X) t)
noncomputable def tTrue : FB := fun S => .ok true S
section
variable {X : Cx} {kp : Nat → Bool} {e a b : Expr} {pos : Pos}
theorem dts_nil : DTs X tTrue [] := ⟨fun pins s σ H Q I ⟨F, O, S, b, S', r, h, k⟩ => by
  cases h
  exact pts_nil.run pins s σ H Q I (k H F O (Stp.refl _ _ _) r)⟩
theorem dts_one {c : Expr} {t : FB} (h : DT X t c) : DTs X t [c] := pts_one h
theorem kbG {s : Shared} {H : Hp} {scope : Scope} {ce : Env} {fp : List Addr} {g : FG} (hc : X.calm = true) (h : DG (X.blk s H scope ce fp) kp g e) : PG (X.blk s H scope ce fp) e (rdG (kg X) kp g) := kg_blk hc s H scope ce fp ▸ h
theorem kbT {s : Shared} {H : Hp} {scope : Scope} {ce : Env} {fp : List Addr} {t : FB} {ifs : List Expr} (hc : X.calm = true) (h : DTs (X.blk s H scope ce fp) t ifs) : PTs (X.blk s H scope ce fp) ifs (rdT (kg X) t) := kg_blk hc s H scope ce fp ▸ h
theorem kbE {s : Shared} {H : Hp} {scope : Scope} {ce : Env} {fp : List Addr} {f : FE} (hc : X.calm = true) (h : DE (X.blk s H scope ce fp) f e) : PE (X.blk s H scope ce fp) e (rdE (kg X) f) := kg_blk hc s H scope ce fp ▸ h
theorem dm_lc {elt tg iter : Expr} {ifs : List Expr} {scope : Scope} {own : List (Str × Nat)} {fi : FI} {g : FG} {t : FB} {fe : FE} (hc : X.calm = true) (hN : X.N.Nodup) (hi : PI X tg iter (rdI (kg X) fi)) (ok : BlkOk X.N X.env.scope scope own)
    (hg : ∀ (s : Shared) (H : Hp) (C : Addr) (cl : List (Str × Addr)) (fp : List Addr), DG (X.blk s H scope (compEnvC scope cl C X.env) fp) (kpo (own.map (·.2))) g tg)
    (ht : ∀ (s : Shared) (H : Hp) (C : Addr) (cl : List (Str × Addr)) (fp : List Addr), DTs (X.blk s H scope (compEnvC scope cl C X.env) fp) t ifs)
    (he : ∀ (s : Shared) (H : Hp) (C : Addr) (cl : List (Str × Addr)) (fp : List Addr), DE (X.blk s H scope (compEnvC scope cl C X.env) fp) fe elt) (hs : ∀ x, foldedSetIterable iter X.env x = pure x := by intro _; rfl) :
    DM X (mLc (own.map (·.2)) fi g t fe) (.ListComp elt [⟨tg, iter, ifs, 0⟩] scope pos) := PE.imp (pe_lc hc hN hi ok (fun s H C cl fp => kbG hc (hg s H C cl fp)) (fun s H C cl fp => kbT hc (ht s H C cl fp)) (fun s H C cl fp => kbE hc (he s H C cl fp)) hs) fun σ H Q h => lc_rd h
/-- name = [..] -/
theorem ds_setLc {i : Nat} {y : Str} {py spos : Pos} {elt tg iter : Expr} {ifs : List Expr} {scope : Scope} {own : List (Str × Nat)} {fi : FI} {g : FG} {t : FB} {fe : FE} (hc : X.calm = true) (hN : X.N.Nodup) (hy : X.N[i]? = some y) (hyl : X.env.scope.names.lookup y = some .local) (hk : kp i = false)
    (hsw : swapsWith (.ListComp elt [⟨tg, iter, ifs, 0⟩] scope pos) (some (.Name y py)) spos.line X.env = pure true) (hi : PI X tg iter (rdI (kg X) fi)) (ok : BlkOk X.N X.env.scope scope own)
    (hg : ∀ (s : Shared) (H : Hp) (C : Addr) (cl : List (Str × Addr)) (fp : List Addr), DG (X.blk s H scope (compEnvC scope cl C X.env) fp) (kpo (own.map (·.2))) g tg)
    (ht : ∀ (s : Shared) (H : Hp) (C : Addr) (cl : List (Str × Addr)) (fp : List Addr), DTs (X.blk s H scope (compEnvC scope cl C X.env) fp) t ifs)
    (he : ∀ (s : Shared) (H : Hp) (C : Addr) (cl : List (Str × Addr)) (fp : List Addr), DE (X.blk s H scope (compEnvC scope cl C X.env) fp) fe elt) (hs : ∀ x, foldedSetIterable iter X.env x = pure x := by intro _; rfl) :
    DS X kp (sSet i (mLc (own.map (·.2)) fi g t fe)) (.Assign [.Name y py] (.ListComp elt [⟨tg, iter, ifs, 0⟩] scope pos) spos) :=
  PS.imp (ps_setLc hc hN hy hyl hsw hi ok (fun s H C cl fp => kbG hc (hg s H C cl fp)) (fun s H C cl fp => kbT hc (ht s H C cl fp)) (fun s H C cl fp => kbE hc (he s H C cl fp)) hs) fun D σ H h => set_rd hk (fun _ _ _ q => lc_rd q) h
end

inductive CR where
  | ok (r : M) (fin : List (Option M))
  | ex (x : Exn) (fin : List (Option M))
  | no
noncomputable def M.own : M → Bool
  | .d _ => false
  | .exn _ => false
  | _ => true
noncomputable def lend : List Ov → SS → Option (List M × SS)
  | [], S => some ([], S)
  | .d x :: os, S => match lend os S with
    | some (ms, S') => some (.d x :: ms, S')
    | none => none
  | .j i :: os, S => match S.at i with
    | some m => (match lend os (if m.own then S.set i none else S) with
      | some (ms, S') => some (m :: ms, S')
      | none => none)
    | none => none
noncomputable def back : List Ov → List M → List (Option M) → SS → SS
  | .j i :: os, m :: ms, f :: fs, S => back os ms fs (if m.own then S.set i f else S)
  | .d _ :: os, _ :: ms, _ :: fs, S => back os ms fs S
  | _, _, _, S => S
noncomputable def Lent (os : List Ov) (ms : List M) (p i : Nat) : Prop := os[p]? = some (.j i) ∧ ∃ m, ms[p]? = some m ∧ m.own = true
theorem Lent.succ {o : Ov} {os : List Ov} {m : M} {ms : List M} {p i : Nat} : Lent (o :: os) (m :: ms) (p + 1) i ↔ Lent os ms p i := by
  unfold Lent
  simp
structure LendOk (os : List Ov) (ms : List M) (S S' : SS) : Prop where
  len : ms.length = os.length
  sl : S'.length = S.length
  dd : ∀ (p : Nat) (x : D), os[p]? = some (Ov.d x) → ms[p]? = some (M.d x)
  jj : ∀ (p i : Nat), os[p]? = some (Ov.j i) → ∃ m, ms[p]? = some m ∧ S.at i = some m
  inj : ∀ p p' i, Lent os ms p i → Lent os ms p' i → p = p'
  st : ∀ j m, S'.at j = some m → S.at j = some m ∧ ∀ p, ¬ Lent os ms p j
theorem lend_ok : ∀ {os : List Ov} {S S' : SS} {ms : List M}, lend os S = some (ms, S') → LendOk os ms S S'
  | [], S, S', ms, h => by
    cases h
    exact ⟨rfl, rfl, fun p x e => by simp at e, fun p i e => by simp at e, fun p p' i e => by simp [Lent] at e, fun j m e => ⟨e, fun p q => by simp [Lent] at q⟩⟩
  | .d x :: os, S, S', ms, h => by
    have h : (match lend os S with | some (ms, S') => some (M.d x :: ms, S') | none => none) = some (ms, S') := h
    cases e1 : lend os S with
    | none => rw [e1] at h; cases h
    | some z =>
      obtain ⟨mr, S1⟩ := z
      rw [e1] at h
      cases h
      have L := lend_ok e1
      have n0 : ∀ i, ¬ Lent (.d x :: os) (.d x :: mr) 0 i := fun i q => by
        have := q.1
        simp at this
      refine ⟨by simp [L.len], L.sl, fun p y e => ?_, fun p i e => ?_, fun p p' i e e' => ?_, fun j m e => ?_⟩
      · cases p with
        | zero => simp at e ⊢; exact e
        | succ p => simpa using L.dd p y (by simpa using e)
      · cases p with
        | zero => simp at e
        | succ p => simpa using L.jj p i (by simpa using e)
      · cases p with
        | zero => exact absurd e (n0 i)
        | succ p =>
          cases p' with
          | zero => exact absurd e' (n0 i)
          | succ p' => exact congrArg (· + 1) (L.inj p p' i (Lent.succ.mp e) (Lent.succ.mp e'))
      · obtain ⟨h1, h2⟩ := L.st j m e
        refine ⟨h1, fun p q => ?_⟩
        cases p with
        | zero => exact n0 j q
        | succ p => exact h2 p (Lent.succ.mp q)
  | .j i :: os, S, S', ms, h => by
    have h : (match S.at i with | some m => (match lend os (if m.own then S.set i none else S) with | some (ms, S') => some (m :: ms, S') | none => none) | none => none) = some (ms, S') := h
    cases em : S.at i with
    | none => rw [em] at h; cases h
    | some m0 =>
      rw [em] at h
      dsimp only at h
      cases e1 : lend os (if m0.own then S.set i none else S) with
      | none => rw [e1] at h; cases h
      | some z =>
        obtain ⟨mr, S1⟩ := z
        rw [e1] at h
        cases h
        have L := lend_ok e1
        have atS : ∀ j m, SS.at (if m0.own then S.set i none else S) j = some m → S.at j = some m ∧ (m0.own = true → i ≠ j) := fun j m e => by
          cases ho : m0.own with
          | false => rw [ho] at e; exact ⟨e, fun z => by cases z⟩
          | true =>
            rw [ho] at e
            rcases SS.at_set e with ⟨_, z⟩ | ⟨ne, z⟩
            · cases z
            · exact ⟨z, fun _ => ne⟩
        have n0 : ∀ k, Lent (.j i :: os) (m0 :: mr) 0 k → k = i ∧ m0.own = true := fun k q => by
          obtain ⟨q1, m, q2, q3⟩ := q
          simp at q1 q2
          subst q2
          exact ⟨q1.symm, q3⟩
        have nl : m0.own = true → ∀ p, ¬ Lent os mr p i := fun ho p q => by
          obtain ⟨q1, _⟩ := q
          obtain ⟨m, _, q2⟩ := L.jj p i q1
          exact (atS i m q2).2 ho rfl
        refine ⟨by simp [L.len], by rw [L.sl]; split <;> simp, fun p y e => ?_, fun p k e => ?_, fun p p' k e e' => ?_, fun j m e => ?_⟩
        · cases p with
          | zero => simp at e
          | succ p => simpa using L.dd p y (by simpa using e)
        · cases p with
          | zero => simp at e; subst e; exact ⟨m0, by simp, em⟩
          | succ p =>
            obtain ⟨m, q1, q2⟩ := L.jj p k (by simpa using e)
            exact ⟨m, by simpa using q1, (atS k m q2).1⟩
        · cases p with
          | zero =>
            obtain ⟨ek, ho⟩ := n0 k e
            subst ek
            cases p' with
            | zero => rfl
            | succ p' => exact absurd (Lent.succ.mp e') (nl ho p')
          | succ p =>
            cases p' with
            | zero =>
              obtain ⟨ek, ho⟩ := n0 k e'
              subst ek
              exact absurd (Lent.succ.mp e) (nl ho p)
            | succ p' => exact congrArg (· + 1) (L.inj p p' k (Lent.succ.mp e) (Lent.succ.mp e'))
        · obtain ⟨h1, h2⟩ := L.st j m e
          obtain ⟨h3, h4⟩ := atS j m h1
          refine ⟨h3, fun p q => ?_⟩
          cases p with
          | zero =>
            obtain ⟨ej, ho⟩ := n0 j q
            exact h4 ho ej.symm
          | succ p => exact h2 p (Lent.succ.mp q)
theorem back_len : ∀ {os : List Ov} {ms : List M} {fs : List (Option M)} {S : SS}, (back os ms fs S).length = S.length
  | [], _, _, _ => by unfold back; rfl
  | .d x :: os, [], _, _ => by unfold back; rfl
  | .d x :: os, _ :: _, [], _ => by unfold back; rfl
  | .d x :: os, m :: ms, f :: fs, S => by
    show (back os ms fs S).length = _
    exact back_len
  | .j x :: os, [], _, _ => by unfold back; rfl
  | .j x :: os, _ :: _, [], _ => by unfold back; rfl
  | .j i :: os, m :: ms, f :: fs, S => by
    show (back os ms fs (if m.own then S.set i f else S)).length = _
    rw [back_len]
    split <;> simp
theorem back_at {j : Nat} {m : M} : ∀ {os : List Ov} {ms : List M} {fs : List (Option M)} {S : SS}, (back os ms fs S).at j = some m → (∃ p, Lent os ms p j ∧ fs[p]? = some (some m)) ∨ S.at j = some m
  | [], _, _, _, h => .inr (by unfold back at h; exact h)
  | .d x :: os, [], _, _, h => .inr (by unfold back at h; exact h)
  | .d x :: os, _ :: _, [], _, h => .inr (by unfold back at h; exact h)
  | .d x :: os, m' :: ms, f :: fs, S, h => by
    have h : (back os ms fs S).at j = some m := h
    rcases back_at h with ⟨p, h1, h2⟩ | h1
    · exact .inl ⟨p + 1, Lent.succ.mpr h1, by simpa using h2⟩
    · exact .inr h1
  | .j x :: os, [], _, _, h => .inr (by unfold back at h; exact h)
  | .j x :: os, _ :: _, [], _, h => .inr (by unfold back at h; exact h)
  | .j i :: os, m' :: ms, f :: fs, S, h => by
    have h : (back os ms fs (if m'.own then S.set i f else S)).at j = some m := h
    rcases back_at h with ⟨p, h1, h2⟩ | h1
    · exact .inl ⟨p + 1, Lent.succ.mpr h1, by simpa using h2⟩
    · cases ho : m'.own with
      | false => rw [ho] at h1; exact .inr h1
      | true =>
        rw [ho] at h1
        rcases SS.at_set h1 with ⟨e1, e2⟩ | ⟨_, e⟩
        · subst e1
          exact .inl ⟨0, ⟨by simp, m', by simp, ho⟩, by simp [e2]⟩
        · exact .inr e

/-! ### what a def promises -/
noncomputable def spD (K : KG) (np : Nat) (g : List M → CR) : Sp := fun vs H Q E => ∃ F O ms r fin, vs.length = np ∧ ms.length = np ∧ Bs H F O ∧ (∀ p m, ms[p]? = some m → ∃ v, vs[p]? = some v ∧ RepM K H F O (.s p, []) v m) ∧ g ms = .ok r fin ∧
  ∀ v H' F' O', Stp H F O H' F' O' → Bs H' F' O' → RepM K H' F' O' (.r, []) v r → (∀ p m, fin[p]? = some (some m) → ∃ w, vs[p]? = some w ∧ RepM K H' F' O' (.s p, []) w m) → Q v H'
/-- room where no repr is under way -/
structure RoomG (k : Nat) (A : Around) : Prop where
  rm : Room k A
  gd : A.guards = some []
theorem RoomG.deeper {k : Nat} {A : Around} (r : RoomG (k + 1) A) (env : Env) : RoomG k (A.deeper env) := ⟨r.rm.deeper env, r.gd⟩
/-- a def's promise where no repr is under way -/
structure FnG (P : Program) (w : World) (K : PySem.W.Frag) (mg : Str → Option Value) (base : Heap) (k : Nat) (f : Addr) (fd : FuncData) (ps : List Str) (sp : Sp) : Prop where
  len : ∀ vs H Q E, sp vs H Q E → vs.length = ps.length
  run : ∀ (A : Around) (outer : List Env) (s : Shared) (H : Hp) (args : Args) (us : List Value) (vs : List V) (Q : VK) (E : XK), RoomG k A → Env0 P w K mg base A outer s H → BindsTo s fd args (ps.zip us) → Vals vs us → sp vs H Q E →
    codeAny (model P w) A (.call (.ref f) args) (L2.CR CX0 outer P w H s Q E) s
section
variable {X : Cx} {k : Nat} {f : Addr} {fd : FuncData} {ps : List Str} {sp : Sp} {E : XK} {x : Str} {p pos : Pos} {e : Expr} {es : List Expr} {t : TA}
theorem run_g {pins : List (Addr × Obj)} {σ : St} {H : Hp} {s : Shared} {Q : VK} {us : List Value} {vs : List V} (F : FnG X.prog X.w X.K X.mg X.base k f fd ps sp) (hr : RoomG k X.A) (hb : Binds X.K fd ps [])
    (I : Inv X pins σ H s) (r : Vals vs us) (h : sp vs H Q E) : wpAny (model X.prog X.w) X.A (call (.ref f) us) (EP X pins σ Q) X.xe s := by
  have hl : us.length = ps.length := by rw [← r.length]; exact F.len _ _ _ _ h
  have hb' := hb s us I.kIn (by rw [List.append_nil]; exact hl)
  rw [List.append_nil] at hb'
  refine wpAny_call (codeAny_mono (F.run X.A X.stack s H ⟨us, []⟩ us vs Q E hr I.env0 hb' r h) fun r s' hq => ?_)
  match r, hq with
  | .ok (.ret u), hq => exact I.after hq
theorem pe_callG (F : FnG X.prog X.w X.K X.mg X.base k f fd ps sp) (hr : RoomG k X.A) (hg : Gl X x) (hm : X.mg x = some (.ref f)) (hk : PySem.W.keepIn X.K (.ref f) = true) (hb : Binds X.K fd ps [])
    (ha : PA X (e :: es) t) (hdb : (x == ("__debug__" : Str)) = false := by decide) (he : starEach (e :: es) X.env = (false, eval e X.env) :: starEach es X.env := by rfl) (hpl : (backTo pos (starEach es X.env)).any (·.1) = false := by rfl) :
    PE X (.Call (.Name x p) (e :: es) [] pos) (tCall sp [] E t) :=
  ⟨fun pins s σ H Q I h => wpAny_Call_Name_kw (ld_glob I hg hm (PySem.W.callWith_K (h₀ := X.base) I.ok.mod.kin hk (thn (ha.run pos pins s σ H _ I h) fun us s1 ⟨vs, H1, I1, r, q⟩ =>
    ⟨I1.kIn, run_g (E := E) F hr hb I1 r (by have q : sp (vs ++ []) H1 Q E := q; rw [List.append_nil] at q; exact q)⟩) he hpl) hdb)⟩
end
/-- a def of the text, whatever its defaults are -/
structure FunV (K : PySem.W.Frag) (x qual : Str) (st : Stmt) (f : Addr) (fd : FuncData) : Prop where
  ex : ∃ (oc : Value) (od : Option Addr) (dV kV doc pm : Value) (an : Option Addr) (cdv ct : Value) (osl : Array (Option Value)),
    fd = PySem.W.fnOf x qual (defArgs st) (defBody st) (defScope st) dV kV doc pm an cdv ct ∧ K.lookup f = some ⟨oc, od, .func fd, osl⟩ ∧ PySem.W.codeIn K cdv qual = true
  kp : PySem.W.keepIn K (.ref f) = true
theorem toV {K : PySem.W.Frag} {x qual : Str} {st : Stmt} {f : Addr} {fd : FuncData} (F : Fun K x qual st f fd) : FunV K x qual st f fd :=
  let ⟨oc, od, kV, doc, pm, an, cdv, ct, osl, e, lk, hcd⟩ := F.ex
  ⟨⟨oc, od, .none, kV, doc, pm, an, cdv, ct, osl, e, lk, hcd⟩, F.kp⟩
theorem funV_mk {K : PySem.W.Frag} {x qual : Str} {st : Stmt} {f : Addr} {oc : Value} {od an : Option Addr} {osl : Array (Option Value)} {dV kV doc pm cdv ct : Value} (l : K.lookup f = some ⟨oc, od, .func (PySem.W.fnOf x qual (defArgs st) (defBody st) (defScope st) dV kV doc pm an cdv ct), osl⟩)
    (c : PySem.W.codeIn K cdv qual = true) (k : PySem.W.keepIn K (.ref f) = true) : FunV K x qual st f (PySem.W.fnOf x qual (defArgs st) (defBody st) (defScope st) dV kV doc pm an cdv ct) := ⟨⟨oc, od, dV, kV, doc, pm, an, cdv, ct, osl, rfl, l, c⟩, k⟩
theorem ok_gV {P : Program} {w : World} {K : PySem.W.Frag} {mg : Str → Option Value} {base : Heap} {x qual : Str} {st : Stmt} {f : Addr} {fd : FuncData} {N ps : List Str} {k : Nat} {sp : Sp} (F : FunV K x qual st f fd) (S : FnScope N ps (defScope st)) (len : ∀ vs H Q E, sp vs H Q E → vs.length = ps.length)
    (hbody : ∀ (cdv : Value) (A : Around) (outer : List Env) (s : Shared) (H : Hp) (vs : List V) (Q : VK) (E : XK), RoomG k (A.deeper (envOfC qual (defScope st) s.heap.objs.size f cdv)) → sp vs H Q E →
      ∃ t, PSs (cxOf CX0 P w K mg base N qual (defScope st) f cdv A outer s H E).nox (defBody st) t ∧ t { nx := fun _ H' => Q .non H', rt := Q } (L2.start N vs) H) : FnG P w K mg base (k + 1) f fd ps sp := by
  obtain ⟨oc, od, dV, kV, doc, pm, an, cdv, ct, osl, rfl, lk, hcd⟩ := F.ex
  refine ⟨len, fun A outer s H args us vs Q E hr e0 hb r hsp => ?_⟩
  have hl := len _ _ _ _ hsp
  have kx : ∀ b o, base.get? b = some o → s.heap.get? b = some o := fun b o e => (e0.bs b o e).1
  have KX : K.In s.heap := e0.mod.kin.keeps kx
  refine codeAny_call_function hr.rm.depth (KX _ _ lk) rfl S.co S.gen rfl (PySem.W.codeRec_of KX hcd) (hb _ _ _ _ ?_)
  refine wpAny_newFunctionEnv_cells S.kind (fun ⟨n, v⟩ hy => ?_) fun env he s1 y => ?_
  · rcases S.par n (List.of_mem_zip hy).1 with q | q
    · exact .inl q
    · exact .inr ⟨q, PySem.W.cellsFrom_some _ _ _ (.inl q)⟩
  · subst he
    refine ⟨(e0.mod.nolimit.keeps kx).keeps y.toInCall.keep, codeAny_func ?_⟩
    obtain ⟨t, ht, hq⟩ := hbody cdv A outer s H vs Q E (hr.deeper _) hsp
    have I : L2.Inv (cxOf CX0 P w K mg base N qual (defScope st) f cdv A outer s H E) [] (L2.start N vs) H s1 := inv_start S hr.rm.hd e0 hl r y
    have hw := ht.nox.run [] s1 (L2.start N vs) H _ I hq
    refine wpAny_mono hw (fun fl s' hs => ?_) fun e s' hs => hs
    have done : ∀ {σ' : St} {H' : Hp} {v : V} {u : Value}, L2.Inv (cxOf CX0 P w K mg base N qual (defScope st) f cdv A outer s H E) [] σ' H' s' → RelV v u → Q v H' → L2.CE outer P w H s Q u s' :=
      fun {σ' H' v u} J rv q => ⟨v, H', J.os, J.bare, J.base, J.hok, rv, q⟩
    cases fl with
    | ret u =>
      obtain ⟨v, σ', H', J, rv, q⟩ := hs
      exact done J rv q
    | next =>
      obtain ⟨σ', H', J, q⟩ := hs
      exact done (v := V.non) (u := Value.none) J rfl q
    | brk =>
      obtain ⟨_, _, _, q⟩ := hs
      exact False.elim q
    | cont =>
      obtain ⟨_, _, _, q⟩ := hs
      exact False.elim q
structure FnD (P : Program) (w : World) (K : PySem.W.Frag) (mg : Str → Option Value) (base : Heap) (n : Nat) (x : Str) (np : Nat) (g : List M → CR) : Prop where
  ex : ∃ (f : Addr) (fd : FuncData) (ps : List Str), ps.length = np ∧ FnG P w K mg base n f fd ps (spD (kg0 K mg) np g) ∧ mg x = some (.ref f) ∧ PySem.W.keepIn K (.ref f) = true ∧ Binds K fd ps []
noncomputable def mCall (g : List M → CR) (fas : FA) : FM := fun S => (fas S).bind fun os S1 => match lend os S1 with
  | some (ms, S2) => (match g ms with
    | .ok r fin => .ok r (back os ms fin S2)
    | .ex x fin => .ex x (back os ms fin S2)
    | .no => .no)
  | none => .no

section
open Classical
noncomputable def posOf (os : List Ov) (ms : List M) (i : Nat) : Option Nat := if h : ∃ p, Lent os ms p i then some h.choose else none
theorem posOf_of {os : List Ov} {ms : List M} {i p : Nat} (inj : ∀ p p' i, Lent os ms p i → Lent os ms p' i → p = p') (h : Lent os ms p i) : posOf os ms i = some p := by
  unfold posOf
  have hx : ∃ p, Lent os ms p i := ⟨p, h⟩
  rw [dif_pos hx]
  exact congrArg some (inj _ _ i hx.choose_spec h)
theorem posOf_none {os : List Ov} {ms : List M} {i : Nat} (h : ∀ p, ¬ Lent os ms p i) : posOf os ms i = none := by
  unfold posOf
  rw [dif_neg (fun ⟨p, q⟩ => h p q)]
noncomputable def inO (os : List Ov) (ms : List M) (O : OW) : OW := fun a => match O a with
  | some (.s i, pth) => (match posOf os ms i with
    | some p => some (.s p, pth)
    | none => none)
  | _ => none
noncomputable def outO (os : List Ov) (ms : List M) (O Oc : OW) : OW := fun a => match Oc a with
  | some (.s p, pth) => (match os[p]? with
    | some (.j i) => if Lent os ms p i then some (.s i, pth) else none
    | _ => none)
  | some (.r, pth) => some (.r, pth)
  | none => (match O a with
    | some (.s i, pth) => (match posOf os ms i with
      | some _ => none
      | none => some (.s i, pth))
    | _ => none)
section
variable {os : List Ov} {ms : List M} {O Oc : OW} {a : Addr} {q : Pl}
theorem inO_some (h : inO os ms O a = some q) : ∃ q', O a = some q' := by
  unfold inO at h
  cases e : O a with
  | none => rw [e] at h; cases h
  | some q' => exact ⟨q', rfl⟩
theorem outO_some (h : outO os ms O Oc a = some q) : (∃ q', Oc a = some q') ∨ (Oc a = none ∧ ∃ i pth, O a = some (.s i, pth) ∧ posOf os ms i = none ∧ q = (.s i, pth)) := by
  unfold outO at h
  cases e : Oc a with
  | some q' => exact .inl ⟨q', rfl⟩
  | none =>
    rw [e] at h
    dsimp only at h
    cases e2 : O a with
    | none => rw [e2] at h; cases h
    | some z =>
      rw [e2] at h
      obtain ⟨rt, pth⟩ := z
      cases rt with
      | r => cases h
      | s i =>
        dsimp only at h
        cases e3 : posOf os ms i with
        | some _ => rw [e3] at h; cases h
        | none => rw [e3] at h; cases h; exact .inr ⟨rfl, i, pth, rfl, e3, rfl⟩
theorem inO_none_of {i : Nat} {pth : List Nat} (h : O a = some (.s i, pth)) (hp : posOf os ms i = none) : inO os ms O a = none := by
  unfold inO
  rw [h]
  dsimp only
  rw [hp]
end
end
section
variable {X : Cx} {e : Expr} {es : List Expr} {p pos : Pos} {x : Str} {n np : Nat} {g : List M → CR}
/-- the operands are handed over, what is lent comes back -/
noncomputable def callR (g : List M → CR) (os : List Ov) (S1 : SS) : R M := match lend os S1 with
  | some (ms, S2) => (match g ms with
    | .ok r fin => .ok r (back os ms fin S2)
    | .ex x fin => .ex x (back os ms fin S2)
    | .no => .no)
  | none => .no
theorem call_core {K : KG} {H1 F1 : Hp} {O1 : OW} {σ : St} {S1 S' : SS} {m : M} {os : List Ov} {vs : List V} {Q : VK} {E : XK} {np : Nat} {g : List M → CR} (r1 : Rp K H1 F1 O1 σ S1) (ro : RepOvs K F1 σ vs os) (eos : os.length = np) (h2 : callR g os S1 = .ok m S')
    (k : ∀ v H' F' O', Stp H1 F1 O1 H' F' O' → Rp K H' F' O' σ S' → RepM K H' F' O' (.r, []) v m → Q v H') : spD K np g vs H1 Q E := by
  unfold callR at h2
  cases el : lend os S1 with
  | none => rw [el] at h2; cases h2
  | some z =>
    obtain ⟨ms, S2⟩ := z
    rw [el] at h2
    dsimp only at h2
    cases eg : g ms with
    | ex x fin => rw [eg] at h2; cases h2
    | no => rw [eg] at h2; cases h2
    | ok rr fin =>
      rw [eg] at h2
      cases h2
      have L := lend_ok el
      have rolen : ∀ {vs : List V} {os : List Ov}, RepOvs K F1 σ vs os → vs.length = os.length := fun {vs os} h => by
        induction h with
        | nil => rfl
        | cons _ _ ih => simp [ih]
      have roget : ∀ {vs : List V} {os : List Ov} {i : Nat} {o : Ov}, RepOvs K F1 σ vs os → os[i]? = some o → ∃ v, vs[i]? = some v ∧ RepOv K F1 σ v o := fun {vs os i o} h => by
        induction h generalizing i with
        | nil => intro e; simp at e
        | cons h _ ih =>
          intro e
          cases i with
          | zero => simp at e; subst e; exact ⟨_, by simp, h⟩
          | succ i =>
            obtain ⟨v, q1, q2⟩ := ih (by simpa using e)
            exact ⟨v, by simpa using q1, q2⟩
      have inBs : Bs H1 F1 (inO os ms O1) := ⟨r1.bs.fh, fun a q hq => by
        obtain ⟨q', e⟩ := inO_some hq
        exact r1.bs.fo a q' e⟩
      refine ⟨F1, inO os ms O1, ms, m, fin, by rw [rolen ro, eos], by rw [L.len, eos], inBs, fun p mm hp => ?_, eg, fun v H2 F2 Oc st2 bs2 rm rf => ?_⟩
      · -- the arguments
        have hlt : p < os.length := by rw [← L.len]; exact (List.getElem?_eq_some_iff.mp hp).1
        have eo : os[p]? = some os[p] := List.getElem?_eq_getElem hlt
        obtain ⟨v, hv, rv⟩ := roget ro eo
        refine ⟨v, hv, ?_⟩
        cases eop : os[p] with
        | d y =>
          rw [eop] at eo rv
          have := L.dd p y eo
          rw [hp] at this
          cases this
          exact rv
        | j i =>
          rw [eop] at eo rv
          obtain ⟨m', q1, q2⟩ := L.jj p i eo
          rw [hp] at q1
          cases q1
          obtain ⟨w, hw, rw'⟩ := r1.sl i _ q2
          have z : σ[i]? = some (some v) := rv
          rw [hw] at z
          cases z
          cases ho : mm.own with
          | false =>
            cases mm with
            | d y => exact rw'
            | exn _ => exact rw'
            | lst _ => cases ho
            | _ => cases ho
          | true =>
            have hl : Lent os ms p i := ⟨eo, mm, hp, ho⟩
            exact RepM.move (Le.refl _) (fun a o _ e1 e2 => ⟨e2, by unfold inO; rw [e1]; dsimp only; rw [posOf_of L.inj hl]⟩) rw'
      · -- behind the call
        have keepO : ∀ a i pth, O1 a = some (.s i, pth) → posOf os ms i = none → Oc a = none ∧ ∀ o, H1 a = some o → H2 a = some o := fun a i pth e hp => by
          have hin := inO_none_of (os := os) (ms := ms) e hp
          refine ⟨?_, fun o ho => st2.kp a o ho hin⟩
          cases e2 : Oc a with
          | none => rfl
          | some q =>
            rcases st2.nw a q e2 with ⟨q', z⟩ | z
            · rw [hin] at z; cases z
            · obtain ⟨_, u, hu⟩ := r1.bs.fo a _ e
              rw [hu] at z; cases z
        have st3 : Stp H1 F1 O1 H2 F2 (outO os ms O1 Oc) := by
          refine ⟨st2.ff, fun a o ha e => st2.kp a o ha ?_, fun a q hq => ?_, fun a o ha => ?_, st2.al⟩
          · unfold inO; rw [e]
          · rcases outO_some hq with ⟨q', e⟩ | ⟨_, i, pth, e, _⟩
            · rcases st2.nw a q' e with ⟨q2, z⟩ | z
              · exact .inl (inO_some z)
              · exact .inr z
            · exact .inl ⟨_, e⟩
          · rcases st2.fz a o ha with z | ⟨q, z⟩ | z
            · exact .inl z
            · exact .inr (.inl (inO_some z))
            · exact .inr (.inr z)
        have bs3 : Bs H2 F2 (outO os ms O1 Oc) := by
          refine ⟨bs2.fh, fun a q hq => ?_⟩
          rcases outO_some hq with ⟨q', e⟩ | ⟨e0, i, pth, e, hp, _⟩
          · exact bs2.fo a q' e
          · obtain ⟨z1, u, z2⟩ := r1.bs.fo a _ e
            obtain ⟨_, k2⟩ := keepO a i pth e hp
            refine ⟨?_, u, k2 u z2⟩
            cases e5 : F2 a with
            | none => rfl
            | some y =>
              rcases st2.fz a y e5 with z | ⟨q', z⟩ | z
              · rw [z1] at z; cases z
              · rw [inO_none_of (os := os) (ms := ms) e hp] at z; cases z
              · rw [z2] at z; cases z
        refine k v H2 F2 _ st3 ⟨bs3, ?_, fun j mm hj => ?_⟩ (RepM.move (Le.refl _) (fun a o _ e1 e2 => ⟨e2, by unfold outO; rw [e1]⟩) rm)
        · rw [back_len, L.sl]; exact r1.len
        · rcases back_at hj with ⟨p, hl, hfp⟩ | hj
          · obtain ⟨w, hw, rw'⟩ := rf p mm hfp
            obtain ⟨v', hv', rv'⟩ := roget ro hl.1
            rw [hw] at hv'
            cases hv'
            refine ⟨w, rv', RepM.move (Le.refl _) (fun a o _ e1 e2 => ⟨e2, ?_⟩) rw'⟩
            unfold outO
            rw [e1]
            dsimp only
            rw [hl.1]
            dsimp only
            rw [if_pos hl]
          · obtain ⟨h3, h4⟩ := L.st j mm hj
            obtain ⟨w, hw, rw'⟩ := r1.sl j mm h3
            have hp := posOf_none h4
            refine ⟨w, hw, rw'.stay st2.ff fun a o pp e1 e2 => ?_⟩
            obtain ⟨k1, k2⟩ := keepO a j pp e1 hp
            refine ⟨k2 o e2, ?_⟩
            unfold outO
            rw [k1]
            dsimp only
            rw [e1]
            dsimp only
            rw [hp]
theorem call_rd {K : KG} {fas : FA} {σ : St} {H : Hp} {Q : VK} (h : rdM K (mCall g fas) σ H Q) (hnp : ∀ S os S', fas S = .ok os S' → os.length = np) : tCall (spD K np g) [] (fun _ _ _ => False) (rdA K fas) σ H Q := by
  obtain ⟨F, O, S, m, S', r, hf, k⟩ := h
  obtain ⟨os, S1, h1, h2⟩ := R.bind_ok hf
  refine ⟨F, O, S, os, S1, r, h1, fun vs H1 F1 O1 st1 r1 ro => ?_⟩
  show spD K np g (vs ++ []) H1 Q _
  rw [List.append_nil]
  exact call_core r1 ro (hnp S os S1 h1) h2 fun v H' F' O' st r' rm => k v H' F' O' (st1.trans st) r' rm
/-- how many operands there are -/
noncomputable def Many (f : FA) (n : Nat) : Prop := ∀ S os S', f S = .ok os S' → os.length = n
theorem many_nil : Many aNil 0 := fun S os S' h => by cases h; rfl
theorem many_cons {f : FE} {g : FA} {n : Nat} (h : Many g n) : Many (aCons f g) (n + 1) := fun S os S' hf => by
  obtain ⟨o, S1, h1, h2⟩ := R.bind_ok hf
  obtain ⟨or, S2, h3, h4⟩ := R.bind_ok h2
  cases h4
  exact congrArg (· + 1) (h _ _ _ h3)
theorem dm_call {fas : FA} (F : FnD X.prog X.w X.K X.mg X.base n x np g) (hr : RoomG n X.A) (hg : Gl X x) (ha : DA X fas (e :: es)) (hm : Many fas np) (hdb : (x == ("__debug__" : Str)) = false := by decide)
    (he : starEach (e :: es) X.env = (false, eval e X.env) :: starEach es X.env := by rfl) (hpl : (backTo pos (starEach es X.env)).any (·.1) = false := by rfl) (hcm : X.calm = true := by rfl) : DM X (mCall g fas) (.Call (.Name x p) (e :: es) [] pos) := by
  obtain ⟨f, fd, ps, hps, hF, hmg, hk, hb⟩ := F.ex
  rw [← kg_calm hcm] at hF
  exact PE.imp (pe_callG (E := fun _ _ _ => False) hF hr hg hmg hk hb ha hdb he hpl) fun σ H Q h => call_rd h hm
end
/-! ### a def -/
noncomputable def finOf (kp : Nat → Bool) (S : SS) : Nat → Nat → List (Option M)
  | _, 0 => []
  | i, n + 1 => (if kp i then S.at i else none) :: finOf kp S (i + 1) n
noncomputable def runFn (np nl : Nat) (kp : Nat → Bool) (body : FS) : List M → CR := fun ms => if ms.length = np then (match body (ms.map some ++ List.replicate (nl - np) none) with
  | .ok (.rt m) S => .ok m (finOf kp S 0 np)
  | .ok .nx S => .ok (.d .non) (finOf kp S 0 np)
  | .ex x S => .ex x (finOf kp S 0 np)
  | _ => .no) else .no
theorem finOf_at {kp : Nat → Bool} {S : SS} {m : M} : ∀ {n i p : Nat}, (finOf kp S i n)[p]? = some (some m) → kp (i + p) = true ∧ S.at (i + p) = some m ∧ p < n
  | 0, i, p, h => by simp [finOf] at h
  | n + 1, i, 0, h => by
    simp only [finOf, List.getElem?_cons_zero, Option.some.injEq] at h
    split at h
    · rename_i hk; exact ⟨hk, h, Nat.succ_pos _⟩
    · cases h
  | n + 1, i, p + 1, h => by
    simp only [finOf, List.getElem?_cons_succ] at h
    obtain ⟨h1, h2, h3⟩ := finOf_at h
    have e : i + 1 + p = i + (p + 1) := by omega
    rw [e] at h1 h2
    exact ⟨h1, h2, Nat.succ_lt_succ h3⟩
theorem fn_okV0 {P : Program} {w : World} {K : PySem.W.Frag} {mg : Str → Option Value} {base : Heap} {x qual : Str} {st : Stmt} {f : Addr} {fd : FuncData} {N ps : List Str} {k : Nat} {kp : Nat → Bool} {body : FS} (F : FunV K x qual st f fd) (S : FnScope N ps (defScope st))
    (hbody : ∀ (cdv : Value) (A : Around) (outer : List Env) (s : Shared) (H : Hp) (E : XK), RoomG k (A.deeper (envOfC qual (defScope st) s.heap.objs.size f cdv)) → DSs (cxOf CX0 P w K mg base N qual (defScope st) f cdv A outer s H E).nox kp body (defBody st)) :
    FnG P w K mg base (k + 1) f fd ps (spD (kg0 K mg) ps.length (runFn ps.length N.length kp body)) := by
  refine ok_gV F S (fun vs H Q E ⟨_, _, _, _, _, h, _⟩ => h) fun cdv A outer s H vs Q E hr hsp => ⟨_, hbody cdv A outer s H E hr, ?_⟩
  obtain ⟨F', O, ms, r, fin, hv, hm, bs, args, hg, k⟩ := hsp
  unfold runFn at hg
  rw [if_pos hm] at hg
  have hst : ∀ p v, vs[p]? = some v → (L2.start N vs)[p]? = some (some v) := fun p v e => by
    unfold L2.start
    have hl := (List.getElem?_eq_some_iff.mp e).1
    rw [List.getElem?_append_left (by simpa using hl), List.getElem?_map, e]
    rfl
  have r0 : Rp (kg0 K mg) H F' O (L2.start N vs) (ms.map some ++ List.replicate (N.length - ps.length) none) := by
    refine ⟨bs, by unfold L2.start; simp [hm, hv], fun i m e => ?_⟩
    have e' : ms[i]? = some m := by
      unfold SS.at at e
      by_cases hl : i < (ms.map some).length
      · rw [List.getElem?_append_left hl, List.getElem?_map] at e
        cases e2 : ms[i]? with
        | none => rw [e2] at e; cases e
        | some z => rw [e2] at e; exact e
      · rw [List.getElem?_append_right (by omega)] at e
        rw [List.getElem?_replicate] at e
        split at e <;> cases e
    obtain ⟨v, h1, h2⟩ := args i m e'
    exact ⟨v, hst i v h1, h2⟩
  have fins : ∀ {S' : SS} {σ' : St} {H' F'' : Hp} {O' : OW}, Rp (kg0 K mg) H' F'' O' σ' S' → Kp kp (L2.start N vs) σ' → ∀ p m, (finOf kp S' 0 ps.length)[p]? = some (some m) → ∃ w, vs[p]? = some w ∧ RepM (kg0 K mg) H' F'' O' (.s p, []) w m := fun {S' σ' H' F'' O'} r1 kk p m e => by
    obtain ⟨h1, h2, h3⟩ := finOf_at e
    rw [Nat.zero_add] at h1 h2
    obtain ⟨w, hw, rm⟩ := r1.sl p m h2
    have hl : p < vs.length := by rw [hv]; exact h3
    have e2 := List.getElem?_eq_getElem hl
    rw [kk.2 p h1, hst p _ e2] at hw
    cases hw
    exact ⟨_, e2, rm⟩
  show rdS (kg0 K mg) kp body _ (L2.start N vs) H
  cases eb : body (ms.map some ++ List.replicate (N.length - ps.length) none) with
  | no => rw [eb] at hg; cases hg
  | ex x S' => rw [eb] at hg; cases hg
  | ok fl S' =>
    rw [eb] at hg
    refine ⟨F', O, _, fl, S', r0, eb, ?_⟩
    cases fl with
    | nx =>
      cases hg
      exact fun σ' H' F'' O' st' r' kk => k .non H' F'' O' st' r'.bs .non (fins r' kk)
    | rt m =>
      cases hg
      exact fun v σ' H' F'' O' st' r' kk rm => k v H' F'' O' st' r'.bs rm (fins r' kk)
    | bk => cases hg
    | ct => cases hg
theorem fn_okV {P : Program} {w : World} {K : PySem.W.Frag} {mg : Str → Option Value} {base : Heap} {x qual : Str} {st : Stmt} {f : Addr} {fd : FuncData} {k : Nat} (N ps : List Str) (np nl : Nat) (kp : Nat → Bool) (body : FS) (g : List M → CR) (hnp : ps.length = np) (hnl : N.length = nl)
    (hg : g = runFn np nl kp body) (F : FunV K x qual st f fd) (S : FnScope N ps (defScope st))
    (hbody : ∀ (cdv : Value) (A : Around) (outer : List Env) (s : Shared) (H : Hp) (E : XK), RoomG k (A.deeper (envOfC qual (defScope st) s.heap.objs.size f cdv)) → DSs (cxOf CX0 P w K mg base N qual (defScope st) f cdv A outer s H E).nox kp body (defBody st)) :
    FnG P w K mg base (k + 1) f fd ps (spD (kg0 K mg) np g) := by
  subst hnp hnl hg
  exact fn_okV0 F S hbody
theorem fn_ok {P : Program} {w : World} {K : PySem.W.Frag} {mg : Str → Option Value} {base : Heap} {x qual : Str} {st : Stmt} {f : Addr} {fd : FuncData} {k : Nat} (N ps : List Str) (np nl : Nat) (kp : Nat → Bool) (body : FS) (g : List M → CR) (hnp : ps.length = np) (hnl : N.length = nl)
    (hg : g = runFn np nl kp body) (F : Fun K x qual st f fd) (S : FnScope N ps (defScope st))
    (hbody : ∀ (cdv : Value) (A : Around) (outer : List Env) (s : Shared) (H : Hp) (E : XK), RoomG k (A.deeper (envOfC qual (defScope st) s.heap.objs.size f cdv)) → DSs (cxOf CX0 P w K mg base N qual (defScope st) f cdv A outer s H E).nox kp body (defBody st)) :
    FnG P w K mg base (k + 1) f fd ps (spD (kg0 K mg) np g) :=
  fn_okV N ps np nl kp body g hnp hnl hg (toV F) S hbody

noncomputable def semR (K : KG) (g : D → D → Option M) : R2 := fun v u H Q => ∃ F x y m, Le F H ∧ View K H F v x ∧ View K H F u y ∧ g x y = some m ∧ Wish K H F m Q
theorem opD_of {X : Cx} {f : Value → Value → Sem Value} {g : D → D → Option M} (h : OpR X f (semR (kg X) g)) : OpD X f g := ⟨_, h, fun H F v u x y m Q l vx vy e w => ⟨F, x, y, m, l, vx, vy, e, w⟩⟩
section
variable {K : KG} {H F : Hp} {Q : VK}
theorem Wish.int {i : Int} (w : Wish K H F (.d (.int i)) Q) : Q (.int i) H := w.d _ _ rfl (.int i)
theorem Wish.bl {i : Bool} (w : Wish K H F (.d (.bl i)) Q) : Q (.bl i) H := w.d _ _ rfl (.bl i)
theorem Wish.str {i : Str} (w : Wish K H F (.d (.str i)) Q) : Q (.str i) H := w.d _ _ rfl (.str i)
theorem Wish.of_d {x : D} (h : ∀ v, RepD K F v x → Q v H) (hn : ∀ zs, x ≠ .tup zs) (ho : x ≠ .odk := by intro h; cases h) : Wish K H F (.d x) Q :=
  { d := fun y v e r => by cases e; exact h v r
    t := fun zs p vs e _ _ => by cases e; exact absurd rfl (hn zs)
    l := fun zs p vs e _ _ => by cases e
    k := fun ks ds p vs e _ _ _ => by cases e
    o := fun p e _ => by cases e; exact absurd rfl ho }
theorem wish_bl {b : Bool} (h : Q (.bl b) H) : Wish K H F (.d (.bl b)) Q := .of_d (fun v r => by cases r; exact h) fun zs e => by cases e
end

/-! ### arithmetic -/
noncomputable def mulOk (i j : Int) : Bool := decide (-(2 ^ 64) < i ∧ i < 2 ^ 64) || decide (-(2 ^ 64) < j ∧ j < 2 ^ 64)
noncomputable def divOk (j : Int) : Bool := decide (j ≠ 0 ∧ -(2 ^ 128) < j ∧ j < 2 ^ 128)
/-- a text so many times -/
noncomputable def repS (x : Str) (k : Nat) : Str := ⟨(List.replicate k x.cps).foldl (· ++ ·) #[]⟩
noncomputable def addD : D → D → Option M
  | .int i, .int j => some (.d (.int (i + j)))
  | .int i, .bl b => some (.d (.int (i + b2i b)))
  | .str x, .str y => if x.length + y.length ≤ line then some (.d (.str (x ++ y))) else none
  | .lst xs, .lst ys => if xs.length + ys.length ≤ line then some (.lst (xs ++ ys)) else none
  | .tup xs, .tup ys => if xs.length + ys.length ≤ line then some (.d (.tup (xs ++ ys))) else none
  | _, _ => none
noncomputable def subD : D → D → Option M
  | .int i, .int j => some (.d (.int (i - j)))
  | _, _ => none
noncomputable def mulD : D → D → Option M
  | .int i, .int j => if mulOk i j = true then some (.d (.int (i * j))) else none
  | .lst xs, .int k => if (-(2 ^ 63) ≤ k ∧ k < 2 ^ 63) ∧ xs.length * k.toNat ≤ line then some (.lst (List.replicate k.toNat xs).flatten) else none
  | .tup xs, .int k => if 0 ≤ k ∧ k ≤ 10000 ∧ xs ≠ [] ∧ xs.length ≤ 100 then some (.d (.tup (List.replicate k.toNat xs).flatten)) else none
  | .str x, .int k => if 0 ≤ k ∧ k ≤ 1000 ∧ x.length ≤ 1000 then some (.d (.str (repS x k.toNat))) else none
  | _, _ => none
noncomputable def fdivD : D → D → Option M
  | .int i, .int j => if divOk j = true then some (.d (.int (i.fdiv j))) else none
  | _, _ => none
noncomputable def modD : D → D → Option M
  | .int i, .int j => if j ≠ 0 then some (.d (.int (i.fmod j))) else none
  | _, _ => none
noncomputable def powD : D → D → Option M
  | .int i, .int j => if 0 ≤ j ∧ j ≤ 1000000 ∧ i.natAbs < 2 ^ 64 then some (.d (.int (i ^ j.toNat))) else none
  | _, _ => none
theorem RepDs.rep {K : KG} {F : Hp} {v : List V} {d : List D} (h : RepDs K F v d) : ∀ k : Nat, RepDs K F (List.replicate k v).flatten (List.replicate k d).flatten
  | 0 => .nil
  | k + 1 => by
    rw [List.replicate_succ, List.flatten_cons, List.replicate_succ, List.flatten_cons]
    exact h.append (RepDs.rep h k)
section
variable {X : Cx}
theorem Inv.rdl {pins : List (Addr × Obj)} {σ : St} {H : Hp} {s : Shared} {l : Addr} {xs : List V} (I : Inv X pins σ H s) (h : Rd H l (.lst xs)) : xs.length ≤ sizeLine ∧ ∃ (its : List Value) (n : Nat), Vals xs its ∧ xs.length = its.length ∧ s.heap.get? l = some { cls := .type "list", data := .seq its.toArray n } := by
  obtain ⟨z, its, n, r, e⟩ := h.ok I.hok
  exact ⟨z, its, n, r, r.length, e⟩
theorem op_catR : OpR X (binaryOp .Add) (fun x y H Q => ∃ l b xs zs, x = .ref l ∧ y = .ref b ∧ Rd H l (.lst xs) ∧ Rd H b (.lst zs) ∧ xs.length + zs.length ≤ sizeLine ∧ ∀ p, H p = none → Q (.ref p) (upd H p (.lst (xs ++ zs)))) := by
  intro pins s σ H x y v u Q I rx ry h
  obtain ⟨l, b, xs, zs, rfl, rfl, hH, hB, hz, q⟩ := h
  cases rx
  cases ry
  obtain ⟨z, its, n, r, hl, e⟩ := Inv.rdl I hH
  obtain ⟨z2, its2, n2, r2, hl2, e2⟩ := Inv.rdl I hB
  refine PySem.P.add_list e e2 ?_ (by rw [List.size_toArray, List.size_toArray]; omega)
  have ea : its.toArray ++ its2.toArray = (its ++ its2).toArray := by simp
  rw [ea]
  exact ⟨.ref _, _, I.lnew (t' := s.toks) (r.append r2) (by rw [List.length_append]; omega), rfl, q _ I.fresh⟩
theorem op_fdivA : OpR X (binaryOp .FloorDiv) (rI (fun _ j => divOk j = true) fun i j => .int (i.fdiv j)) := opI fun i j _ _ _ _ _ hc q => by
  have h := of_decide_eq_true hc
  exact floordiv_int h.1 q (.inl (PyProof.noPylong_of_log2 (Nat.lt_of_lt_of_le (PySem.Flt.log2_lt_of (k := 128) (by decide) (by omega)) (by decide))))
theorem mulOk_c {i j : Int} (h : mulOk i j = true) : CMul i j := by
  unfold mulOk at h
  rw [Bool.or_eq_true] at h
  rcases h with h | h
  · exact .inl (of_decide_eq_true h)
  · exact .inr (of_decide_eq_true h)
theorem od_add : OpD X (binaryOp .Add) addD := opD_of (by
  intro pins s σ H x y v u Q I rx ry ⟨F, a, b, m, l, va, vb, e, w⟩
  cases a with
  | int i =>
    obtain rfl := va.int
    cases b with
    | int j => obtain rfl := vb.int; cases e; exact op_add pins s σ H _ _ v u Q I rx ry ⟨i, j, rfl, rfl, w.int⟩
    | bl j => obtain rfl := vb.bl; cases e; exact op_add_ib pins s σ H _ _ v u Q I rx ry ⟨i, j, rfl, rfl, w.int⟩
    | _ => cases e
  | str i =>
    obtain rfl := va.str
    cases b with
    | str j =>
      obtain rfl := vb.str
      have e : (if i.length + j.length ≤ line then some (M.d (.str (i ++ j))) else none) = some m := e
      split at e
      · rename_i hz; cases e; exact op_add_str pins s σ H _ _ v u Q I rx ry ⟨i, j, rfl, rfl, by rw [← line_eq]; exact hz, w.str⟩
      · cases e
    | _ => cases e
  | lst i =>
    obtain ⟨a1, vs, rfl, h1, r1⟩ := va.list l
    cases b with
    | lst j =>
      obtain ⟨a2, vs2, rfl, h2, r2⟩ := vb.list l
      have e : (if i.length + j.length ≤ line then some (M.lst (i ++ j)) else none) = some m := e
      split at e
      · rename_i hz
        cases e
        exact op_catR pins s σ H _ _ v u Q I rx ry ⟨a1, a2, vs, vs2, rfl, rfl, h1, h2, by rw [r1.len, r2.len, ← line_eq]; exact hz, fun p hp => w.l _ p _ rfl hp (r1.append r2)⟩
      · cases e
    | _ => cases e
  | tup i =>
    obtain ⟨a1, vs, rfl, h1, r1⟩ := va.tuple l
    cases b with
    | tup j =>
      obtain ⟨a2, vs2, rfl, h2, r2⟩ := vb.tuple l
      have e : (if i.length + j.length ≤ line then some (M.d (.tup (i ++ j))) else none) = some m := e
      split at e
      · rename_i hz
        cases e
        refine op_catA pins s σ H _ _ v u Q I rx ry ⟨a1, a2, vs, vs2, rfl, rfl, h1, h2, by rw [r1.len, r2.len, ← line_eq]; exact hz, fun hv => ?_, fun _ hv => ?_, fun _ _ p hp => w.t _ p _ rfl hp (r1.append r2)⟩
        · subst hv
          cases r1
          cases vb with
          | fz h => exact w.d _ _ rfl h
        · subst hv
          cases r2
          cases va with
          | fz h => exact w.d _ _ rfl (by rw [List.append_nil]; exact h)
      · cases e
    | _ => cases e
  | _ => cases e)
theorem od_sub : OpD X (binaryOp .Sub) subD := opD_of (by
  intro pins s σ H x y v u Q I rx ry ⟨F, a, b, m, l, va, vb, e, w⟩
  cases a with
  | int i =>
    obtain rfl := va.int
    cases b with
    | int j => obtain rfl := vb.int; cases e; exact op_sub pins s σ H _ _ v u Q I rx ry ⟨i, j, rfl, rfl, w.int⟩
    | _ => cases e
  | _ => cases e)
theorem op_repR : OpR X (binaryOp .Mult) (fun x y H Q => ∃ l k xs, x = .ref l ∧ y = .int k ∧ Rd H l (.lst xs) ∧ -(2 ^ 63) ≤ k ∧ k < 2 ^ 63 ∧ xs.length * k.toNat ≤ sizeLine ∧
  ∀ p, H p = none → Q (.ref p) (upd H p (.lst (List.replicate k.toNat xs).flatten))) := by
  intro pins s σ H x y v u Q I rx ry h
  obtain ⟨l, k, xs, rfl, rfl, hH, h1, h2, hz, q⟩ := h
  cases rx
  obtain ⟨t, rfl⟩ := ry
  obtain ⟨z, its, n, r, hl, e⟩ := Inv.rdl I hH
  have hlen : its.toArray.size * k.toNat ≤ sizeLine := by rw [List.size_toArray, ← hl]; exact hz
  have hcap : ¬ its.toArray.size * k.toNat > (2 ^ 63 - 1) / 8 := by
    have : (sizeLine : Nat) ≤ (2 ^ 63 - 1) / 8 := by decide
    omega
  have hfit : ¬ (!Builtin.List.listFitsIndex k) = true := by
    rw [fitsIndex_both h1 h2]
    exact Bool.false_ne_true
  have hlong : ¬ Builtin.List.listTooLong (its.toArray.size * k.toNat) = true := by
    rw [notLongL hlen]
    exact Bool.false_ne_true
  have hnew : List.foldl (fun x1 x2 => x1 ++ x2) #[] (List.replicate (if its.toArray.isEmpty = true then 0 else k.toNat) its.toArray) = (List.replicate k.toNat its).flatten.toArray := by
    have f0 : ∀ m : Nat, List.foldl (fun x1 x2 => x1 ++ x2) #[] (List.replicate m its.toArray) = (List.replicate m its).flatten.toArray := fun m => by
      have := foldl_rep its m []
      rw [List.nil_append] at this
      exact this
    rw [f0]
    cases its with
    | nil => simp
    | cons a r' => rw [if_neg (by simp)]
  refine wpAny_binaryOp_repeat_ref (T := "list") (U := "int") (by decide) ⟨_, e, rfl⟩ (fun s' => typeIs_int s' k t) noFill_list_mul PySem.F.fills_int_mul PySem.F.slot_int_rmul repeat_list PySem.F.slot_int_index.lookup
    (call_meets PySem.F.slot_int_rmul (typeIs_int s k t) PySem.F.entry_int_rmul (PySem.F.args_int_rmul_2 _ _) (int___rmul___int_list k t l its.toArray n)
      ⟨e, rfl, ⟨_, e, rfl⟩, call_meets PySem.F.slot_list_mul ⟨_, e, rfl⟩ PySem.F.entry_list_mul (PySem.F.args_list_mul_2 _ _) (AutoListH.list___mul___list_int_3 l its.toArray n k t hfit hcap hlong) ⟨e, ?_⟩⟩)
  rw [hnew]
  exact ⟨.ref _, _, I.lnew (t' := s.toks) (r.rep k.toNat) (by rw [PyProof.Rows.lm_len_rep_flat, Nat.mul_comm]; exact hz), rfl, q _ I.fresh⟩
theorem tuple_mulW0 (l : Addr) (items : Array Value) (n : Nat) (dd : Option Addr) (sl : Array (Option Value)) (x : Int) (u : Tok) (c0 : (decide (x < -(2 ^ 63)) || decide (x ≥ 2 ^ 63)) = false) (c1 : (items.isEmpty || x == 1) = false) (c2 : (decide (x ≤ 0) || items.isEmpty) = true) :
    Meets (Builtin.«tuple.__mul__» ⟨[.ref l, .int x u], []⟩) (fun _ R s => s.heap.get? l = some { cls := .type "tuple", dict := dd, data := .seq items n, slots := sl } ∧
      R (.ok (.ret (Value.ref s.heap.objs.size))) { s with heap := s.heap.push { cls := Value.type "tuple", data := Data.seq #[] }, toks := s.toks }) :=
  .of_wp fun prog w A R s h => by
    obtain ⟨hp, g, d, tk, os⟩ := s
    obtain ⟨hl, h⟩ := h
    have f1 := AutoSeq1.idx_int
    wp_walk using wpAny_loadPart' hl
    repeat (first
      | (refine wpAny_ite_false (decide_eq_false (by rw [c0]; exact Bool.false_ne_true)) ?_; wp_walk using wpAny_loadPart' hl)
      | (refine wpAny_ite_false (decide_eq_false (by rw [c1]; exact Bool.false_ne_true)) ?_; wp_walk using wpAny_loadPart' hl)
      | (refine wpAny_ite_true (decide_eq_true c2) ?_; wp_walk using wpAny_loadPart' hl))
    exact ⟨_, rfl, h⟩
theorem tuple_mulW1 (l : Addr) (items : Array Value) (n : Nat) (dd : Option Addr) (sl : Array (Option Value)) (x : Int) (u : Tok) (c0 : (decide (x < -(2 ^ 63)) || decide (x ≥ 2 ^ 63)) = false) (c1 : (items.isEmpty || x == 1) = true) :
    Meets (Builtin.«tuple.__mul__» ⟨[.ref l, .int x u], []⟩) (fun _ R s => s.heap.get? l = some { cls := .type "tuple", dict := dd, data := .seq items n, slots := sl } ∧
      R (.ok (.ret (Value.ref l))) { s with heap := s.heap, toks := s.toks }) :=
  .of_wp fun prog w A R s h => by
    obtain ⟨hp, g, d, tk, os⟩ := s
    obtain ⟨hl, h⟩ := h
    have f1 := AutoSeq1.idx_int
    wp_walk using wpAny_loadPart' hl
    repeat (first
      | (refine wpAny_ite_false (decide_eq_false (by rw [c0]; exact Bool.false_ne_true)) ?_; wp_walk using wpAny_loadPart' hl)
      | (refine wpAny_ite_true (decide_eq_true c1) ?_; wp_walk using wpAny_loadPart' hl))
    exact ⟨_, rfl, h⟩
theorem op_repTB : OpR X (binaryOp .Mult) (fun x y H Q => ∃ l k xs, x = .ref l ∧ y = .int k ∧ SqT X.K H l xs ∧ xs ≠ [] ∧ 2 ≤ k ∧ k ≤ 10000 ∧ xs.length ≤ 100 ∧ ∀ p, H p = none → Q (.ref p) (upd H p (.tup (List.replicate k.toNat xs).flatten))) := by
  intro pins s σ H x y v u Q I rx ry h
  obtain ⟨l, k, xs, rfl, rfl, hT, hne, h1, h2, hz, q⟩ := h
  cases rx
  obtain ⟨t, rfl⟩ := ry
  obtain ⟨its, r, ⟨⟨cls, dd, data, sl⟩, ho, hc, n, hd⟩, hs⟩ := I.tuple hT
  simp only at hc hd
  subst hc hd
  have hle : its.length = xs.length := r.length.symm
  have hn : its ≠ [] := fun e => hne (by
    rw [e] at hle
    exact List.eq_nil_of_length_eq_zero hle.symm)
  have hi : its.toArray.isEmpty = false := by
    cases its with
    | nil => exact absurd rfl hn
    | cons a b => rfl
  have hsz0 : its.toArray.size = xs.length := by rw [List.size_toArray, hle]
  have hm : ((its.toArray.size : Nat) : Int) * k ≤ 1000000 := by
    rw [hsz0]
    have a1 : ((xs.length : Nat) : Int) * k ≤ 100 * k := Int.mul_le_mul_of_nonneg_right (by omega) (by omega)
    omega
  have flen : (List.replicate k.toNat its).flatten.length ≤ sizeLine := by
    rw [PyProof.Rows.lm_len_rep_flat, hle, sizeLine_eq]
    have a1 : k.toNat * xs.length ≤ 10000 * 100 := Nat.mul_le_mul (by omega) hz
    omega
  have c0 : (decide (k < -(2 ^ 63)) || decide (k ≥ 2 ^ 63)) = false := by
    rw [decide_eq_false (by omega), decide_eq_false (by omega)] <;> rfl
  have c1 : (its.toArray.isEmpty || k == 1) = false := by
    rw [hi, Bool.false_or]
    exact beq_eq_false_iff_ne.mpr (by omega)
  have c2 : (decide (k ≤ 0) || its.toArray.isEmpty) = false := by
    rw [hi, Bool.or_false]
    exact decide_eq_false (by omega)
  have c4 : Builtin.Tuple.tupleTooMany (((its.toArray.size : Nat) : Int) * k) = false := by
    unfold Builtin.Tuple.tupleTooMany
    rw [sizeLine_eq]
    exact decide_eq_false (by omega)
  refine wpAny_binaryOp_repeat_ref (T := "tuple") (U := "int") (by decide) ⟨_, ho, rfl⟩ (fun s' => typeIs_int s' k t) noFill_tuple_mul PySem.F.fills_int_mul PySem.F.slot_int_rmul repeat_tuple PySem.F.slot_int_index.lookup
    (call_meets PySem.F.slot_int_rmul (typeIs_int s k t) PySem.F.entry_int_rmul (PySem.F.args_int_rmul_2 _ _) (int_rmul_tuple k t l its.toArray n dd sl)
      ⟨ho, rfl, ⟨_, ho, rfl⟩, call_meets PySem.F.slot_tuple_mul ⟨_, ho, rfl⟩ PySem.F.entry_tuple_mul (PySem.F.args_tuple_mul_2 _ _) (tuple_mulW l its.toArray n dd sl k t c0 c1 c2 (by omega) c4 (by rw [size_rep, List.size_toArray]; exact flen)) ⟨ho, ?_⟩⟩)
  rw [size_rep]
  refine ⟨.ref s.heap.objs.size, _, I.laid (t' := s.toks) (o := .tup (List.replicate k.toNat xs).flatten) (fun b ob q => Heap.get?_push_of_some _ q) (Nat.le_refl _) ?_, rfl, q _ (I.hok.fresh (Nat.le_refl _))⟩
  exact ⟨by rw [PyProof.Rows.lm_len_rep_flat, sizeLine_eq]; have a1 : k.toNat * xs.length ≤ 10000 * 100 := Nat.mul_le_mul (by omega) hz; omega, _, r.rep k.toNat, IsTup.new _ _⟩
theorem op_repTA : OpR X (binaryOp .Mult) (fun x y H Q => ∃ l k xs, x = .ref l ∧ y = .int k ∧ SqT X.K H l xs ∧ xs ≠ [] ∧ 0 ≤ k ∧ k ≤ 10000 ∧ xs.length ≤ 100 ∧ (k = 1 → Q (.ref l) H) ∧ (k ≠ 1 → ∀ p, H p = none → Q (.ref p) (upd H p (.tup (List.replicate k.toNat xs).flatten)))) := by
  intro pins s σ H x y v u Q I rx ry h
  obtain ⟨l, k, xs, rfl, rfl, hT, hne, h1, h2, hz, q1, q⟩ := h
  by_cases h2k : 2 ≤ k
  · exact op_repTB pins s σ H _ _ v u Q I rx ry ⟨l, k, xs, rfl, rfl, hT, hne, h2k, h2, hz, q (by omega)⟩
  cases rx
  obtain ⟨t, rfl⟩ := ry
  obtain ⟨its, r, ⟨⟨cls, dd, data, sl⟩, ho, hc, n, hd⟩, hs⟩ := I.tuple hT
  simp only at hc hd
  subst hc hd
  have hle : its.length = xs.length := r.length.symm
  have hn : its ≠ [] := fun e => hne (by
    rw [e] at hle
    exact List.eq_nil_of_length_eq_zero hle.symm)
  have hi : its.toArray.isEmpty = false := by
    cases its with
    | nil => exact absurd rfl hn
    | cons a b => rfl
  have c0 : (decide (k < -(2 ^ 63)) || decide (k ≥ 2 ^ 63)) = false := by
    rw [decide_eq_false (by omega), decide_eq_false (by omega)] <;> rfl
  by_cases h1k : k = 1
  · refine wpAny_binaryOp_repeat_ref (T := "tuple") (U := "int") (by decide) ⟨_, ho, rfl⟩ (fun s' => typeIs_int s' k t) noFill_tuple_mul PySem.F.fills_int_mul PySem.F.slot_int_rmul repeat_tuple PySem.F.slot_int_index.lookup
      (call_meets PySem.F.slot_int_rmul (typeIs_int s k t) PySem.F.entry_int_rmul (PySem.F.args_int_rmul_2 _ _) (int_rmul_tuple k t l its.toArray n dd sl)
        ⟨ho, rfl, ⟨_, ho, rfl⟩, call_meets PySem.F.slot_tuple_mul ⟨_, ho, rfl⟩ PySem.F.entry_tuple_mul (PySem.F.args_tuple_mul_2 _ _) (tuple_mulW1 l its.toArray n dd sl k t c0 (by rw [h1k]; simp)) ⟨ho, ?_⟩⟩)
    exact ⟨.ref l, H, I, rfl, q1 h1k⟩
  · have h0 : k = 0 := by omega
    subst h0
    have c1 : (its.toArray.isEmpty || (0 : Int) == 1) = false := by rw [hi]; rfl
    refine wpAny_binaryOp_repeat_ref (T := "tuple") (U := "int") (by decide) ⟨_, ho, rfl⟩ (fun s' => typeIs_int s' 0 t) noFill_tuple_mul PySem.F.fills_int_mul PySem.F.slot_int_rmul repeat_tuple PySem.F.slot_int_index.lookup
      (call_meets PySem.F.slot_int_rmul (typeIs_int s 0 t) PySem.F.entry_int_rmul (PySem.F.args_int_rmul_2 _ _) (int_rmul_tuple 0 t l its.toArray n dd sl)
        ⟨ho, rfl, ⟨_, ho, rfl⟩, call_meets PySem.F.slot_tuple_mul ⟨_, ho, rfl⟩ PySem.F.entry_tuple_mul (PySem.F.args_tuple_mul_2 _ _) (tuple_mulW0 l its.toArray n dd sl 0 t c0 c1 (by simp)) ⟨ho, ?_⟩⟩)
    refine ⟨.ref s.heap.objs.size, _, I.laid (t' := s.toks) (o := .tup []) (fun b ob q => Heap.get?_push_of_some _ q) (Nat.le_refl _) ?_, rfl, q (by decide) _ (I.hok.fresh (Nat.le_refl _))⟩
    exact ⟨Nat.zero_le _, [], .nil, IsTup.new _ _⟩
theorem repS_1 (x : Str) : repS x 1 = x := by
  show Str.mk (#[] ++ x.cps) = x
  rw [Array.empty_append]
theorem repS_fold (k : Nat) (a b : Array Nat) (h : b = #[]) : (List.replicate k b).foldl (· ++ ·) a = a := by
  subst h
  induction k with
  | zero => rfl
  | succ k ih => rw [List.replicate_succ, List.foldl_cons, Array.append_empty, ih]
theorem repS_e (x : Str) (h : x.length = 0) (k : Nat) : repS x k = x := by
  have e : x.cps = #[] := Array.eq_empty_of_size_eq_zero h
  show Str.mk ((List.replicate k x.cps).foldl (· ++ ·) #[]) = x
  rw [repS_fold _ _ _ e]
  cases x
  exact congrArg _ e.symm
theorem repS_size (x : Array Nat) : ∀ (k : Nat) (a : Array Nat), ((List.replicate k x).foldl (· ++ ·) a).size = a.size + k * x.size
  | 0, a => by simp
  | k + 1, a => by rw [List.replicate_succ, List.foldl_cons, repS_size x k, Array.size_append, Nat.succ_mul]; omega
theorem repS_len (x : Str) (k : Nat) : (repS x k).length = k * x.length := by
  show ((List.replicate k x.cps).foldl (· ++ ·) #[]).size = k * x.cps.size
  rw [repS_size]
  simp
theorem op_mul_str : OpR X (binaryOp .Mult) (fun a b H Q => ∃ x k, a = .str x ∧ b = .int k ∧ 0 ≤ k ∧ k ≤ 1000 ∧ x.length ≤ 1000 ∧ Q (.str (repS x k.toNat)) H) := by
  intro pins s σ H a b v u Q I ra rb ⟨x, k, ea, eb, h0, h1, hl, q⟩
  subst ea eb
  obtain ⟨t, rfl⟩ := ra
  obtain ⟨t2, rfl⟩ := rb
  have hml : x.length * k.toNat ≤ 1000 * 1000 := Nat.mul_le_mul hl (by omega)
  refine PySem.P.mul_str (by rw [decide_eq_false (by omega), decide_eq_false (by omega)]; rfl) (fun _ _ => ?_) (fun _ _ => ?_) ?_
  · have : (2 ^ 63 - 1) / k ≥ (2 ^ 63 - 1) / 1000 := by
      by_cases hk : k = 0
      · omega
      · exact (Int.le_ediv_iff_mul_le (by omega)).mpr (by omega)
    omega
  · show decide _ = false
    rw [sizeLine_eq]
    exact decide_eq_false (by omega)
  · by_cases c : k < 1
    · rw [if_pos c]
      have : k = 0 := by omega
      subst this
      exact ⟨by decide, .str (repS x 0), H, I.kept (t' := s.toks + 1) (fun _ _ z => z), ⟨_, rfl⟩, q⟩
    · rw [if_neg c]
      split
      · rename_i hc
        have : repS x k.toNat = x := by
          rw [Bool.or_eq_true] at hc
          rcases hc with hc | hc
          · have : k = 1 := by simpa using hc
            subst this
            exact repS_1 x
          · exact repS_e x (by simpa using hc) _
        rw [this] at q
        exact ⟨.str x, H, I, ⟨_, rfl⟩, q⟩
      · refine ⟨?_, .str (repS x k.toNat), H, I.kept (t' := s.toks + 1) (fun _ _ z => z), ⟨_, rfl⟩, q⟩
        show (repS x k.toNat).length ≤ sizeLine
        rw [repS_len, sizeLine_eq, Nat.mul_comm]
        omega
theorem od_mul : OpD X (binaryOp .Mult) mulD := opD_of (by
  intro pins s σ H x y v u Q I rx ry ⟨F, a, b, m, l, va, vb, e, w⟩
  cases a with
  | int i =>
    obtain rfl := va.int
    cases b with
    | int j =>
      obtain rfl := vb.int
      have e : (if mulOk i j = true then some (M.d (.int (i * j))) else none) = some m := e
      split at e
      · rename_i hz; cases e; exact op_mul pins s σ H _ _ v u Q I rx ry ⟨i, j, rfl, rfl, mulOk_c hz, w.int⟩
      · cases e
    | _ => cases e
  | lst i =>
    obtain ⟨a1, vs, rfl, h1, r1⟩ := va.list l
    cases b with
    | int k =>
      obtain rfl := vb.int
      have e : (if (-(2 ^ 63) ≤ k ∧ k < 2 ^ 63) ∧ i.length * k.toNat ≤ line then some (M.lst (List.replicate k.toNat i).flatten) else none) = some m := e
      split at e
      · rename_i hz
        cases e
        exact op_repR pins s σ H _ _ v u Q I rx ry ⟨a1, k, vs, rfl, rfl, h1, hz.1.1, hz.1.2, by rw [r1.len, ← line_eq]; exact hz.2, fun p hp => w.l _ p _ rfl hp (r1.rep _)⟩
      · cases e
    | _ => cases e
  | tup i =>
    cases b with
    | int k =>
      obtain rfl := vb.int
      have e : (if 0 ≤ k ∧ k ≤ 10000 ∧ i ≠ [] ∧ i.length ≤ 100 then some (M.d (.tup (List.replicate k.toNat i).flatten)) else none) = some m := e
      split at e
      · rename_i hz
        cases e
        have hne := hz.2.2.1
        obtain ⟨a1, vs, ev, h1, r1⟩ := va.tuple l
        subst ev
        refine op_repTA pins s σ H _ _ v u Q I rx ry ⟨a1, k, vs, rfl, rfl, h1, ?_, hz.1, hz.2.1, by rw [r1.len]; exact hz.2.2.2, fun hk => ?_, fun _ p hp => w.t _ p _ rfl hp (r1.rep _)⟩
        · intro z
          subst z
          cases r1
          exact hne rfl
        · subst hk
          cases va with
          | fz h => exact w.d _ _ rfl (by simpa using h)
      · cases e
    | _ => cases e
  | str i =>
    cases b with
    | int k =>
      obtain rfl := vb.int
      obtain rfl := va.str
      have e : (if 0 ≤ k ∧ k ≤ 1000 ∧ i.length ≤ 1000 then some (M.d (.str (repS i k.toNat))) else none) = some m := e
      split at e
      · rename_i hz
        cases e
        exact op_mul_str pins s σ H _ _ v u Q I rx ry ⟨i, k, rfl, rfl, hz.1, hz.2.1, hz.2.2, w.str⟩
      · cases e
    | _ => cases e
  | _ => cases e)
theorem od_fdiv : OpD X (binaryOp .FloorDiv) fdivD := opD_of (by
  intro pins s σ H x y v u Q I rx ry ⟨F, a, b, m, l, va, vb, e, w⟩
  cases a with
  | int i =>
    obtain rfl := va.int
    cases b with
    | int j =>
      obtain rfl := vb.int
      have e : (if divOk j = true then some (M.d (.int (i.fdiv j))) else none) = some m := e
      split at e
      · rename_i hz; cases e; exact op_fdivA pins s σ H _ _ v u Q I rx ry ⟨i, j, rfl, rfl, hz, w.int⟩
      · cases e
    | _ => cases e
  | _ => cases e)
theorem od_mod : OpD X (binaryOp .Mod) modD := opD_of (by
  intro pins s σ H x y v u Q I rx ry ⟨F, a, b, m, l, va, vb, e, w⟩
  cases a with
  | int i =>
    obtain rfl := va.int
    cases b with
    | int j =>
      obtain rfl := vb.int
      have e : (if j ≠ 0 then some (M.d (.int (i.fmod j))) else none) = some m := e
      split at e
      · rename_i hz; cases e; exact op_modN pins s σ H _ _ v u Q I rx ry ⟨i, j, rfl, rfl, hz, w.int⟩
      · cases e
    | _ => cases e
  | _ => cases e)
theorem od_pow : OpD X (binaryOp .Pow) powD := opD_of (by
  intro pins s σ H x y v u Q I rx ry ⟨F, a, b, m, l, va, vb, e, w⟩
  cases a with
  | int i =>
    obtain rfl := va.int
    cases b with
    | int j =>
      obtain rfl := vb.int
      have e : (if 0 ≤ j ∧ j ≤ 1000000 ∧ i.natAbs < 2 ^ 64 then some (M.d (.int (i ^ j.toNat))) else none) = some m := e
      split at e
      · rename_i hz; cases e; exact op_pow pins s σ H _ _ v u Q I rx ry ⟨i, j, rfl, rfl, hz, w.int⟩
      · cases e
    | _ => cases e
  | _ => cases e)
/-- -a -/
noncomputable def mNeg (f : FE) : FM := fun S => (f S).bind fun o S => match o.get S with
  | some (.int i) => .ok (.d (.int (-i))) S
  | _ => .no
theorem dm_neg {e : Expr} {pos : Pos} {f : FE} (h : DE X f e) : DM X (mNeg f) (.UnaryOp .USub e pos) := PE.imp (pe_un un_neg h) fun σ H Q ⟨F, O, S, m, S', r, hf, k⟩ => by
  obtain ⟨o, S1, h1, h2⟩ := R.bind_ok hf
  refine ⟨F, O, S, o, S1, r, h1, fun v H1 F1 O1 st1 r1 ro => ?_⟩
  cases eg : o.get S1 with
  | none => rw [eg] at h2; cases h2
  | some d =>
    rw [eg] at h2
    cases d with
    | int i =>
      cases h2
      obtain rfl := (r1.view ro eg).int
      exact ⟨i, rfl, k _ H1 F1 O1 st1 r1 (.int _)⟩
    | _ => cases h2


end
/-! ### comparisons -/
mutual
noncomputable def D.py : D → PyData
  | .non => .none
  | .bl b => .bool b
  | .int i => .int i
  | .str x => .str x
  | .tup xs => .tuple (D.pys xs)
  | .lst xs => .list (D.pys xs)
  | _ => .none
noncomputable def D.pys : List D → List PyData
  | [] => []
  | x :: xs => D.py x :: D.pys xs
end
mutual
noncomputable def D.eqb : D → D → Bool
  | .non, y => match y with
    | .non => true
    | _ => false
  | .bl a, y => match y with
    | .bl b => a == b
    | .int j => (if a then 1 else 0) == j
    | _ => false
  | .int i, y => match y with
    | .bl b => i == (if b then 1 else 0)
    | .int j => i == j
    | _ => false
  | .str x, y => match y with
    | .str z => x == z
    | _ => false
  | .lst xs, y => match y with
    | .lst ys => D.eqbs xs ys
    | _ => false
  | .tup xs, y => match y with
    | .tup ys => D.eqbs xs ys
    | _ => false
  | _, _ => false
noncomputable def D.eqbs : List D → List D → Bool
  | [], ys => match ys with
    | [] => true
    | _ :: _ => false
  | x :: xs, ys => match ys with
    | [] => false
    | y :: ys => D.eqb x y && D.eqbs xs ys
end
mutual
/-- data that == goes through -/
noncomputable def D.pl : D → Bool
  | .non => true
  | .bl _ => true
  | .int _ => true
  | .str _ => true
  | .tup xs => D.pls xs
  | .lst xs => D.pls xs
  | _ => false
noncomputable def D.pls : List D → Bool
  | [] => true
  | x :: xs => D.pl x && D.pls xs
end
mutual
noncomputable def D.dep : D → Nat
  | .tup xs => D.deps xs + 1
  | .lst xs => D.deps xs + 1
  | _ => 0
noncomputable def D.deps : List D → Nat
  | [] => 0
  | x :: xs => max (D.dep x) (D.deps xs)
end
mutual
theorem D.py_dep : ∀ d : D, d.pl = true → d.py.depth = d.dep
  | .non, _ => rfl
  | .bl _, _ => rfl
  | .int _, _ => rfl
  | .str _, _ => rfl
  | .tup xs, h => by
    show PyData.depthAll (D.pys xs) + 1 = D.deps xs + 1
    rw [D.pys_dep xs h]
  | .lst xs, h => by
    show PyData.depthAll (D.pys xs) + 1 = D.deps xs + 1
    rw [D.pys_dep xs h]
theorem D.pys_dep : ∀ ds : List D, D.pls ds = true → PyData.depthAll (D.pys ds) = D.deps ds
  | [], _ => rfl
  | x :: xs, h => by
    have h : (D.pl x && D.pls xs) = true := h
    rw [Bool.and_eq_true] at h
    show max (D.py x).depth (PyData.depthAll (D.pys xs)) = max (D.dep x) (D.deps xs)
    rw [D.py_dep x h.1, D.pys_dep xs h.2]
end
mutual
theorem D.py_plain : ∀ d : D, d.pl = true → d.py.plain = true
  | .non, _ => rfl
  | .bl _, _ => rfl
  | .int _, _ => rfl
  | .str _, _ => rfl
  | .tup xs, h => D.pys_plain xs h
  | .lst xs, h => D.pys_plain xs h
theorem D.pys_plain : ∀ ds : List D, D.pls ds = true → PyData.plainAll (D.pys ds) = true
  | [], _ => rfl
  | x :: xs, h => by
    have h : (D.pl x && D.pls xs) = true := h
    rw [Bool.and_eq_true] at h
    show ((D.py x).plain && PyData.plainAll (D.pys xs)) = true
    rw [D.py_plain x h.1, D.pys_plain xs h.2]
    rfl
end
mutual
theorem D.py_eqv : ∀ a b : D, a.pl = true → b.pl = true → PyData.eqv a.py b.py = D.eqb a b
  | .non, b, _, hb => by cases b <;> first | rfl | cases hb
  | .bl _, b, _, hb => by cases b <;> first | rfl | cases hb
  | .int _, b, _, hb => by cases b <;> first | rfl | cases hb
  | .str _, b, _, hb => by cases b <;> first | rfl | cases hb
  | .tup xs, b, ha, hb => by
    cases b with
    | tup ys => exact D.pys_eqv xs ys ha hb
    | _ => first | rfl | cases hb
  | .lst xs, b, ha, hb => by
    cases b with
    | lst ys => exact D.pys_eqv xs ys ha hb
    | _ => first | rfl | cases hb
theorem D.pys_eqv : ∀ a b : List D, D.pls a = true → D.pls b = true → PyData.eqvAll (D.pys a) (D.pys b) = D.eqbs a b
  | [], [], _, _ => rfl
  | [], _ :: _, _, _ => rfl
  | _ :: _, [], _, _ => rfl
  | x :: xs, y :: ys, ha, hb => by
    have ha : (D.pl x && D.pls xs) = true := ha
    have hb : (D.pl y && D.pls ys) = true := hb
    rw [Bool.and_eq_true] at ha hb
    show (PyData.eqv (D.py x) (D.py y) && PyData.eqvAll (D.pys xs) (D.pys ys)) = (D.eqb x y && D.eqbs xs ys)
    rw [D.py_eqv x y ha.1 hb.1, D.pys_eqv xs ys ha.2 hb.2]
end
mutual
theorem RepD.dpA {K : KG} {H F : Hp} (l : Le F H) : ∀ (d : D) (v : V), d.pl = true → RepD K F v d → Dp K H v d.py
  | .non, _, _, r => by cases r; exact .non
  | .bl _, _, _, r => by cases r; exact .bl _
  | .int _, _, _, r => by cases r; exact .int _
  | .str _, _, _, r => by cases r; exact .str _
  | .tup xs, _, h, r => by
    cases r with
    | tup hs r => exact .tup (l.st hs.sq) (RepD.dpAs l xs _ h r)
  | .lst xs, _, h, r => by
    cases r with
    | lst hs r => exact .lst (.inl (l.rd hs)) (RepD.dpAs l xs _ h r)
  | .ty _, _, h, _ => by cases h
  | .scr _, _, h, _ => by cases h
  | .dk _, _, h, _ => by cases h
  | .dt _, _, h, _ => by cases h
  | .obj _ _, _, h, _ => by cases h
theorem RepD.dpAs {K : KG} {H F : Hp} (l : Le F H) : ∀ (d : List D) (v : List V), D.pls d = true → RepDs K F v d → DpAll K H v (D.pys d)
  | [], _, _, r => by cases r; exact .nil
  | x :: xs, _, h, r => by
    cases r with
    | cons a r =>
      have h : (D.pl x && D.pls xs) = true := h
      rw [Bool.and_eq_true] at h
      exact .cons (RepD.dpA l x _ h.1 a) (RepD.dpAs l xs _ h.2 r)
end
theorem RepD.dp {K : KG} {H F : Hp} (l : Le F H) : ∀ {d : D} {v : V}, d.pl = true → RepD K F v d → Dp K H v d.py := fun {d v} => RepD.dpA l d v
theorem RepDs.dps {K : KG} {H F : Hp} (l : Le F H) : ∀ {d : List D} {v : List V}, D.pls d = true → RepDs K F v d → DpAll K H v (D.pys d) := fun {d v} => RepD.dpAs l d v
theorem View.dp {K : KG} {H F : Hp} {v : V} {d : D} (l : Le F H) (h : d.pl = true) (w : View K H F v d) : Dp K H v d.py := by
  cases w with
  | fz r => exact r.dp l h
  | lst hh r => exact .lst (.inl (.inl hh)) (r.dps l h)
  | dk _ _ _ => cases h
  | dt _ _ _ => cases h
noncomputable def eqOk (a b : D) : Bool := a.pl && b.pl && decide (min a.dep b.dep ≤ 190)
noncomputable def eqD (a b : D) : Option M := if eqOk a b = true then some (.d (.bl (D.eqb a b))) else none
noncomputable def neD2 : D → D → Option M
  | .lst (_ :: _), .lst [] => some (.d (.bl true))
  | _, _ => none
noncomputable def neD (a b : D) : Option M := if eqOk a b = true then some (.d (.bl (!D.eqb a b))) else neD2 a b
theorem eqOk_of {a b : D} (h : eqOk a b = true) : a.pl = true ∧ b.pl = true ∧ min a.dep b.dep ≤ 190 := by
  unfold eqOk at h
  rw [Bool.and_eq_true, Bool.and_eq_true] at h
  exact ⟨h.1.1, h.1.2, of_decide_eq_true h.2⟩
noncomputable def strIn (x y : Str) : Bool := !(Builtin.Str.occurrences y x 0 y.length 1).isEmpty
noncomputable def inOk (a : D) (xs : List D) : Bool := a.pl && D.pls xs && decide (min a.dep (D.deps xs) ≤ 190)
noncomputable def inD : D → D → Option M
  | a, .lst xs => if inOk a xs = true then some (.d (.bl (xs.any fun y => D.eqb y a))) else none
  | a, .tup xs => if inOk a xs = true then some (.d (.bl (xs.any fun y => D.eqb y a))) else none
  | .str x, .str y => some (.d (.bl (strIn x y)))
  | _, _ => none
noncomputable def ltD : D → D → Option M
  | .int i, .int j => some (.d (.bl (decide (i < j))))
  | .str x, .str y => some (.d (.bl (decide (x.cps.toList < y.cps.toList))))
  | _, _ => none
noncomputable def leD : D → D → Option M
  | .int i, .int j => some (.d (.bl (decide (i ≤ j))))
  | _, _ => none
noncomputable def gtD : D → D → Option M
  | .int i, .int j => some (.d (.bl (decide (j < i))))
  | _, _ => none
noncomputable def geD : D → D → Option M
  | .int i, .int j => some (.d (.bl (decide (j ≤ i))))
  | _, _ => none
section
variable {X : Cx}
theorem od_eq (hu : X.A.units + 192 < cLine) : OpD X (compareOp .Eq) eqD := opD_of (by
  intro pins s σ H x y v u Q I rx ry ⟨F, a, b, m, l, va, vb, e, w⟩
  unfold eqD at e
  split at e
  · rename_i hk
    obtain ⟨h1, h2, h3⟩ := eqOk_of hk
    cases e
    obtain ⟨as, r1⟩ := Dp.reads I _ x v (va.dp l h1) rx
    obtain ⟨bs, r2⟩ := Dp.reads I _ y u (vb.dp l h2) ry
    refine SeqAt.eq_plain r1 r2 (D.py_plain a h1) (D.py_plain b h2) (by rw [D.py_dep a h1, D.py_dep b h2]; omega) ⟨.bl _, H, I, rfl, ?_⟩
    rw [D.py_eqv a b h1 h2]
    exact w.bl
  · cases e)
theorem od_ne (hu : X.A.units + 192 < cLine) : OpD X (compareOp .NotEq) neD := opD_of (by
  intro pins s σ H x y v u Q I rx ry ⟨F, a, b, m, l, va, vb, e, w⟩
  unfold neD at e
  split at e
  · rename_i hk
    obtain ⟨h1, h2, h3⟩ := eqOk_of hk
    cases e
    obtain ⟨as, r1⟩ := Dp.reads I _ x v (va.dp l h1) rx
    obtain ⟨bs, r2⟩ := Dp.reads I _ y u (vb.dp l h2) ry
    refine SeqAt.ne_plain r1 r2 (D.py_plain a h1) (D.py_plain b h2) (by rw [D.py_dep a h1, D.py_dep b h2]; omega) ⟨.bl _, H, I, rfl, ?_⟩
    rw [D.py_eqv a b h1 h2]
    exact w.bl
  · have key : ∃ z zs, a = .lst (z :: zs) ∧ b = .lst [] ∧ m = .d (.bl true) := by
      unfold neD2 at e
      split at e
      · cases e; exact ⟨_, _, rfl, rfl, rfl⟩
      · cases e
    obtain ⟨z, zs, rfl, rfl, rfl⟩ := key
    obtain ⟨a1, vs, rfl, h1, r1⟩ := va.list l
    obtain ⟨b1, us, rfl, h2, r2⟩ := vb.list l
    cases rx
    cases ry
    obtain ⟨_, its, n, q1, hl, g1⟩ := Inv.rdl I h1
    obtain ⟨_, its2, n2, q2, hl2, g2⟩ := Inv.rdl I h2
    have e1 : its.length = zs.length + 1 := by rw [← hl, r1.len]; rfl
    have e2 : its2.length = 0 := by rw [← hl2, r2.len]; rfl
    show wpAny (model X.prog X.w) X.A (richCompare .NotEq (.ref a1) (.ref b1)) _ _ s
    exact PySem.SeqAt.RcNeAt.lists_lengths ⟨_, g1, rfl, n, rfl⟩ ⟨_, g2, rfl, n2, rfl⟩ (by rw [List.size_toArray, List.size_toArray, e1, e2]; simp) (by omega) X.prog X.w _ _ ⟨.bl true, H, I, rfl, w.bl⟩)
theorem pys_any {a : D} (ha : a.pl = true) : ∀ {xs : List D}, D.pls xs = true → ((D.pys xs).any fun y => PyData.eqv y a.py) = xs.any fun y => D.eqb y a
  | [], _ => rfl
  | x :: xs, h => by
    have h : (D.pl x && D.pls xs) = true := h
    rw [Bool.and_eq_true] at h
    show (PyData.eqv x.py a.py || _) = (D.eqb x a || _)
    rw [D.py_eqv x a h.1 ha, pys_any ha h.2]
theorem od_in (hu : X.A.units + 192 < cLine) : OpD X (compareOp .In) inD := opD_of (by
  intro pins s σ H x y v u Q I rx ry ⟨F, a, b, m, l, va, vb, e, w⟩
  have seq : ∀ xs : List D, (b = .lst xs ∨ b = .tup xs) → inOk a xs = true → m = .d (.bl (xs.any fun y => D.eqb y a)) → wpAny (model X.prog X.w) X.A (compareOp .In v u) (EP X pins σ Q) X.xe s := fun xs hb hk em => by
    unfold inOk at hk
    rw [Bool.and_eq_true, Bool.and_eq_true] at hk
    have h3 := of_decide_eq_true hk.2
    have hbp : b.pl = true := by rcases hb with rfl | rfl <;> exact hk.1.2
    obtain ⟨as, r1⟩ := Dp.reads I _ x v (va.dp l hk.1.1) rx
    obtain ⟨bs, r2⟩ := Dp.reads I _ y u (vb.dp l hbp) ry
    have hd : X.A.units + 1 + min (PyData.depthAll (D.pys xs)) a.py.depth < cLine := by rw [D.py_dep a hk.1.1, D.pys_dep xs hk.1.2]; omega
    have fin : EP X pins σ Q (.bool ((D.pys xs).any fun y => PyData.eqv y a.py)) s := ⟨.bl _, H, I, rfl, by rw [pys_any hk.1.1 hk.1.2]; rw [em] at w; exact w.bl⟩
    rcases hb with rfl | rfl
    · exact SeqAt.in_list_data r2 r1 (D.pys_plain xs hk.1.2) (D.py_plain a hk.1.1) hd fin
    · exact SeqAt.in_tuple_data r2 r1 (D.pys_plain xs hk.1.2) (D.py_plain a hk.1.1) hd fin
  cases b with
  | lst xs =>
    have e : (if inOk a xs = true then some (M.d (.bl (xs.any fun y => D.eqb y a))) else none) = some m := by cases a <;> exact e
    split at e
    · rename_i hk; cases e; exact seq xs (.inl rfl) hk rfl
    · cases e
  | tup xs =>
    have e : (if inOk a xs = true then some (M.d (.bl (xs.any fun y => D.eqb y a))) else none) = some m := by cases a <;> exact e
    split at e
    · rename_i hk; cases e; exact seq xs (.inr rfl) hk rfl
    · cases e
  | str z =>
    cases a with
    | str i => obtain rfl := va.str; obtain rfl := vb.str; cases e; exact op_in_str pins s σ H _ _ v u Q I rx ry ⟨i, z, rfl, rfl, w.bl⟩
    | _ => cases e
  | _ => cases a <;> cases e)
theorem od_lt : OpD X (compareOp .Lt) ltD := opD_of (by
  intro pins s σ H x y v u Q I rx ry ⟨F, a, b, m, l, va, vb, e, w⟩
  cases a with
  | int i =>
    cases b with
    | int j => obtain rfl := va.int; obtain rfl := vb.int; cases e; exact op_lt pins s σ H _ _ v u Q I rx ry ⟨i, j, rfl, rfl, w.bl⟩
    | _ => cases e
  | str i =>
    cases b with
    | str j => obtain rfl := va.str; obtain rfl := vb.str; cases e; exact op_lt_str pins s σ H _ _ v u Q I rx ry ⟨i, j, rfl, rfl, w.bl⟩
    | _ => cases e
  | _ => cases e)
theorem od_le : OpD X (compareOp .LtE) leD := opD_of (by
  intro pins s σ H x y v u Q I rx ry ⟨F, a, b, m, l, va, vb, e, w⟩
  cases a with
  | int i =>
    cases b with
    | int j => obtain rfl := va.int; obtain rfl := vb.int; cases e; exact op_le pins s σ H _ _ v u Q I rx ry ⟨i, j, rfl, rfl, w.bl⟩
    | _ => cases e
  | _ => cases e)
theorem od_gt : OpD X (compareOp .Gt) gtD := opD_of (by
  intro pins s σ H x y v u Q I rx ry ⟨F, a, b, m, l, va, vb, e, w⟩
  cases a with
  | int i =>
    cases b with
    | int j => obtain rfl := va.int; obtain rfl := vb.int; cases e; exact op_gt pins s σ H _ _ v u Q I rx ry ⟨i, j, rfl, rfl, w.bl⟩
    | _ => cases e
  | _ => cases e)
theorem od_ge : OpD X (compareOp .GtE) geD := opD_of (by
  intro pins s σ H x y v u Q I rx ry ⟨F, a, b, m, l, va, vb, e, w⟩
  cases a with
  | int i =>
    cases b with
    | int j => obtain rfl := va.int; obtain rfl := vb.int; cases e; exact op_ge pins s σ H _ _ v u Q I rx ry ⟨i, j, rfl, rfl, w.bl⟩
    | _ => cases e
  | _ => cases e)
/-- a op1 b op2 c -/
noncomputable def mChain (g g' : D → D → Option M) (fa fb fc : FE) : FM := fun S => (fa S).bind fun a S => (fb S).bind fun b S => (onD g a b S).bind fun m S => (asB m S).bind fun k S =>
  if k = true then (fc S).bind fun c S => onD g' b c S else .ok (.d (.bl false)) S
theorem chain_rd {K : KG} {g g' : D → D → Option M} {fa fb fc : FE} {r r' : R2} (hr : ∀ (H F : Hp) (v u : V) (x y : D) (m : M) (Q : VK), Le F H → View K H F v x → View K H F u y → g x y = some m → Wish K H F m Q → r v u H Q)
    (hr' : ∀ (H F : Hp) (v u : V) (x y : D) (m : M) (Q : VK), Le F H → View K H F v x → View K H F u y → g' x y = some m → Wish K H F m Q → r' v u H Q)
    {σ : St} {H : Hp} {Q : VK} (h : rdM K (mChain g g' fa fb fc) σ H Q) : tChain r r' (rdE K fa) (rdE K fb) (rdE K fc) σ H Q := by
  obtain ⟨F, O, S, m, S', rp, hf, k⟩ := h
  obtain ⟨a, S1, h1, h2⟩ := R.bind_ok hf
  obtain ⟨b, S2, h3, h4⟩ := R.bind_ok h2
  obtain ⟨m1, S3, h5, h6⟩ := R.bind_ok h4
  obtain ⟨b1, S4, h7, h8⟩ := R.bind_ok h6
  obtain ⟨e5, x, y, ex, ey, eg⟩ := onD_ok h5
  obtain ⟨e7, e8⟩ := asB_ok h7
  subst e5 e7 e8
  refine ⟨F, O, S, a, S1, rp, h1, fun v H1 F1 O1 st1 r1 ra => ⟨F1, O1, S1, b, S4, r1, h3, fun u H2 F2 O2 st2 r2 rb => ?_⟩⟩
  refine hr H2 F2 v u x y _ _ r2.bs.fh (r2.view (ra.mono st2.ff) ex) (r2.view rb ey) eg (wish_bl ⟨b1, rfl, ?_⟩)
  cases b1 with
  | false =>
    cases h8
    show (if false = true then _ else _)
    rw [if_neg (by decide)]
    exact k _ H2 F2 O2 (st1.trans st2) r2 (.bl false)
  | true =>
    rw [if_pos rfl] at h8 ⊢
    obtain ⟨c, S5, h9, h10⟩ := R.bind_ok h8
    obtain ⟨e9, y', z, ey', ez, eg'⟩ := onD_ok h10
    subst e9
    refine ⟨F2, O2, S4, c, S', r2, h9, fun w H3 F3 O3 st3 r3 rc => ?_⟩
    exact hr' H3 F3 u w y' z m Q r3.bs.fh (r3.view (rb.mono st3.ff) ey') (r3.view rc ez) eg' (r3.wish fun w' H4 F4 O4 st4 r4 rm => k w' H4 F4 O4 (((st1.trans st2).trans st3).trans st4) r4 rm)
theorem dm_chain {op op' : CmpOp} {g g' : D → D → Option M} {fa fb fc : FE} {a b c : Expr} {pos : Pos} (ho : OpD X (compareOp op) g) (ho' : OpD X (compareOp op') g') (ha : DE X fa a) (hb : DE X fb b) (hc : DE X fc c)
    (hm : lastMarks [op, op'] [b, c] = false := by with_unfolding_all rfl) : DM X (mChain g g' fa fb fc) (.Compare a [op, op'] [b, c] pos) := by
  obtain ⟨r, hr, hs⟩ := ho
  obtain ⟨r', hr', hs'⟩ := ho'
  exact PE.imp (pe_chain hr hr' ha hb hc hm) fun σ H Q h => chain_rd hs hs' h
theorem dt_chain {op op' : CmpOp} {g g' : D → D → Option M} {fa fb fc : FE} {a b c : Expr} {pos : Pos} (ho : OpD X (compareOp op) g) (ho' : OpD X (compareOp op') g') (ha : DE X fa a) (hb : DE X fb b) (hc : DE X fc c)
    (hm : lastMarks [op, op'] [b, c] = false := by with_unfolding_all rfl) : DT X (tM (mChain g g' fa fb fc)) (.Compare a [op, op'] [b, c] pos) := by
  obtain ⟨r, hr, hs⟩ := ho
  obtain ⟨r', hr', hs'⟩ := ho'
  refine PT.imp (pt_chain hr hr' ha hb hc hm) fun σ H Q h => ?_
  obtain ⟨F, O, S, c, S', rp, hf, k⟩ := h
  obtain ⟨m, S1, h1, h2⟩ := R.bind_ok hf
  obtain ⟨em, eS⟩ := asB_ok h2
  subst em eS
  refine chain_rd (g := g) (g' := g') hs hs' ⟨F, O, S, _, S', rp, h1, fun v H' F' O' st r' rm => ⟨c, ?_, k H' F' O' st r'⟩⟩
  cases (show RepD (kg X) F' v (.bl c) from rm)
  rfl
end

/-! ### x[i] -/
noncomputable def ixD : D → D → Option M
  | .lst xs, .int i => (atI xs i).map .d
  | .tup xs, .int i => (atI xs i).map .d
  | .str z, .int i => if z.length ≤ line then (atI z.cps.toList i).map fun c => .d (.str ⟨#[c]⟩) else none
  | _, _ => none
theorem RepDs.ati {K : KG} {F : Hp} {v : List V} {d : List D} {i : Int} {x : D} (h : RepDs K F v d) (e : atI d i = some x) : ∃ u, atI v i = some u ∧ RepD K F u x := by
  unfold atI at e ⊢
  rw [h.len]
  cases hj : ixN d.length i with
  | none => rw [hj] at e; cases e
  | some j =>
    rw [hj] at e
    exact h.get e
section
variable {X : Cx} {e a b : Expr} {pos : Pos}
theorem ix_all : IxR X (semR (kg X) ixD) := by
  intro value slice pins s σ H x y v u Q I rx ry ⟨F, a, b, m, l, va, vb, e, w⟩ hs
  cases b with
  | int i =>
    obtain rfl := vb.int
    cases a with
    | lst xs =>
      obtain ⟨p, vs, rfl, h1, r1⟩ := va.list l
      have e : (atI xs i).map M.d = some m := e
      cases ea : atI xs i with
      | none => rw [ea] at e; cases e
      | some d =>
        rw [ea] at e
        cases e
        obtain ⟨z, hz, rz⟩ := r1.ati ea
        exact ix_list value slice pins s σ H _ _ v u Q I rx ry ⟨p, vs, i, z, rfl, rfl, .inl h1, hz, w.d _ _ rfl rz⟩ hs
    | tup xs =>
      obtain ⟨p, vs, rfl, h1, r1⟩ := va.tuple l
      have e : (atI xs i).map M.d = some m := e
      cases ea : atI xs i with
      | none => rw [ea] at e; cases e
      | some d =>
        rw [ea] at e
        cases e
        obtain ⟨z, hz, rz⟩ := r1.ati ea
        exact ix_tup value slice pins s σ H _ _ v u Q I rx ry ⟨p, vs, i, z, rfl, rfl, h1, hz, w.d _ _ rfl rz⟩ hs
    | str z =>
      obtain rfl := va.str
      have e : (if z.length ≤ line then (atI z.cps.toList i).map fun c => M.d (.str ⟨#[c]⟩) else none) = some m := e
      split at e
      · rename_i hl
        cases ea : atI z.cps.toList i with
        | none => rw [ea] at e; cases e
        | some c =>
          rw [ea] at e
          cases e
          exact ix_str value slice pins s σ H _ _ v u Q I rx ry ⟨z, i, c, rfl, rfl, by rw [← line_eq]; exact hl, ea, w.str⟩ hs
      · cases e
    | _ => cases e
  | _ => cases a <;> cases e
theorem dm_ix {fa fb : FE} (ha : DE X fa a) (hb : DE X fb b) (hs : PlainIx b := by exact fun _ _ => rfl) : DM X (mBin ixD fa fb) (.Subscript a b pos) :=
  PE.imp (pe_ix ix_all ha hb hs) fun σ H Q h => bin_rd (fun H F v u x y m Q l vx vy e w => ⟨F, x, y, m, l, vx, vy, e, w⟩) h

/-! ### slices -/
noncomputable abbrev FP := SS → R (Option Int)
noncomputable def rdP (K : KG) (f : FP) : TO := fun σ H Q => ∃ F O S o S', Rp K H F O σ S ∧ f S = .ok o S' ∧ ∀ H' F' O', Stp H F O H' F' O' → Rp K H' F' O' σ S' → Q o H'
noncomputable abbrev DP (X : Cx) (f : FP) (e : Option Expr) : Prop := PO X e (rdP (kg X) f)
theorem PO.imp {X : Cx} {e : Option Expr} {t t' : TO} (h : PO X e t) (hm : ∀ σ H Q, t' σ H Q → t σ H Q) : PO X e t' := ⟨fun pins s σ H Q I q => h.run pins s σ H Q I (hm σ H Q q)⟩
noncomputable def pNo : FP := fun S => .ok none S
noncomputable def pIx (f : FE) : FP := fun S => (f S).bind fun o S => match o.get S with
  | some (.int i) => .ok (some i) S
  | _ => .no
theorem dp_no : DP X pNo none := PO.imp po_none fun σ H Q ⟨F, O, S, o, S', r, h, k⟩ => by
  cases h
  exact k H F O (Stp.refl _ _ _) r
theorem dp_ix {f : FE} (h : DE X f e) : DP X (pIx f) (some e) := PO.imp (po_some h) fun σ H Q ⟨F, O, S, o, S', r, hf, k⟩ => by
  obtain ⟨o1, S1, h1, h2⟩ := R.bind_ok hf
  refine ⟨F, O, S, o1, S1, r, h1, fun v H1 F1 O1 st1 r1 ro => ?_⟩
  cases eg : o1.get S1 with
  | none => rw [eg] at h2; cases h2
  | some d =>
    rw [eg] at h2
    cases d with
    | int i =>
      cases h2
      obtain rfl := (r1.view ro eg).int
      exact ⟨i, rfl, k H1 F1 O1 st1 r1⟩
    | _ => cases h2
noncomputable def cutD (xs : List D) (lo hi : Option Int) : List D := (xs.drop (HT.sIx xs.length 0 lo)).take (HT.sIx xs.length xs.length hi - HT.sIx xs.length 0 lo)
theorem RepDs.cut {K : KG} {F : Hp} {v : List V} {d : List D} (h : RepDs K F v d) (lo hi : Option Int) : RepDs K F (cutV v lo hi) (cutD d lo hi) := by
  unfold cutV cutD
  rw [h.len]
  exact (h.drop _).take _
noncomputable def sliceD (lo hi : Option Int) : D → Option M
  | .lst xs => some (.lst (cutD xs lo hi))
  | .scr xs => some (.lst (cutD xs lo hi))
  | .tup xs => some (.d (.tup (cutD xs lo hi)))
  | .str z => if z.length ≤ line then some (.d (.str (cutS z lo hi))) else none
  | _ => none
noncomputable def semSl (K : KG) : V → Option Int → Option Int → Hp → VK → Prop := fun v lo hi H Q => ∃ F x m, Le F H ∧ View K H F v x ∧ sliceD lo hi x = some m ∧ Wish K H F m Q
theorem cutD_whole {xs : List D} {lo hi : Option Int} (h : HT.sIx xs.length 0 lo = 0 ∧ HT.sIx xs.length xs.length hi = xs.length) : cutD xs lo hi = xs := by
  unfold cutD
  rw [h.1, h.2]
  simp
theorem sl_all : SlR X (semSl (kg X)) := by
  intro pins s σ H x v vl vu lo hi sl Q I rx hs pl pu ⟨F, d, m, l, vd, e, w⟩
  cases d with
  | lst xs =>
    obtain ⟨p, vs, rfl, h1, r1⟩ := vd.list l
    cases e
    exact sl_list pins s σ H _ v vl vu lo hi sl Q I rx hs pl pu ⟨p, vs, rfl, .inl h1, fun q hq => w.l _ q _ rfl hq (r1.cut lo hi)⟩
  | scr xs =>
    obtain ⟨p, vs, rfl, h1, r1⟩ := vd.scr l
    cases e
    exact sl_list pins s σ H _ v vl vu lo hi sl Q I rx hs pl pu ⟨p, vs, rfl, h1, fun q hq => w.l _ q _ rfl hq (r1.cut lo hi)⟩
  | tup xs =>
    obtain ⟨p, vs, ev, h1, r1⟩ := vd.tuple l
    subst ev
    cases e
    refine sl_tupA pins s σ H _ v vl vu lo hi sl Q I rx hs pl pu ⟨p, vs, rfl, h1, fun hw => ?_, fun _ q hq => w.t _ q _ rfl hq (r1.cut lo hi)⟩
    rw [r1.len] at hw
    cases vd with
    | fz h => exact w.d _ _ rfl (by rw [cutD_whole hw]; exact h)
  | str z =>
    obtain rfl := vd.str
    have e : (if z.length ≤ line then some (M.d (.str (cutS z lo hi))) else none) = some m := e
    split at e
    · rename_i hl
      cases e
      exact sl_str pins s σ H _ v vl vu lo hi sl Q I rx hs pl pu ⟨z, rfl, by rw [← line_eq]; exact hl, w.str⟩
    · cases e
  | _ => cases e
noncomputable def mSl (f : FE) (l h : FP) : FM := fun S => (f S).bind fun o S => (l S).bind fun lo S => (h S).bind fun hi S => match o.get S with
  | some x => (match sliceD lo hi x with
    | some m => .ok m S
    | none => .no)
  | none => .no
theorem dm_sl {f : FE} {l h : FP} {lo hi : Option Expr} {p2 : Pos} (he : DE X f e) (hl : DP X l lo) (hh : DP X h hi) : DM X (mSl f l h) (.Subscript e (.Slice lo hi none p2) pos) :=
  PE.imp (pe_slice sl_all he hl hh) fun σ H Q ⟨F, O, S, m, S', r, hf, k⟩ => by
    obtain ⟨o, S1, h1, h2⟩ := R.bind_ok hf
    obtain ⟨lo', S2, h3, h4⟩ := R.bind_ok h2
    obtain ⟨hi', S3, h5, h6⟩ := R.bind_ok h4
    refine ⟨F, O, S, o, S1, r, h1, fun v H1 F1 O1 st1 r1 ro => ⟨F1, O1, S1, lo', S2, r1, h3, fun H2 F2 O2 st2 r2 => ⟨F2, O2, S2, hi', S3, r2, h5, fun H3 F3 O3 st3 r3 => ?_⟩⟩⟩
    cases eg : o.get S3 with
    | none => rw [eg] at h6; cases h6
    | some x =>
      rw [eg] at h6
      dsimp only at h6
      cases es : sliceD lo' hi' x with
      | none => rw [es] at h6; cases h6
      | some m' =>
        rw [es] at h6
        cases h6
        exact ⟨F3, x, m, r3.bs.fh, r3.view (ro.mono (st2.trans st3).ff) eg, es, r3.wish fun w H4 F4 O4 st4 r4 rm => k w H4 F4 O4 (((st1.trans st2).trans st3).trans st4) r4 rm⟩

section
variable {prog : Program} {w : World} {A : Around} {E : Value → Shared → Prop} {s : Shared}
end
/-! ### a list of a slot is changed -/
theorem Rp.mut {K : KG} {H F : Hp} {O : OW} {σ : St} {S : SS} {j : Nat} {ds : List D} (r : Rp K H F O σ S) (e : S.at j = some (.lst ds)) :
    ∃ a vs, σ[j]? = some (some (.ref a)) ∧ H a = some (.lst vs) ∧ RepDs K F vs ds ∧ ∀ vs' ds', RepDs K F vs' ds' → Stp H F O (upd H a (.lst vs')) F O ∧ Rp K (upd H a (.lst vs')) F O σ (S.set j (some (.lst ds'))) := by
  obtain ⟨v, hv, a, vs, rfl, ho, hh, rd⟩ := r.sl j _ e
  have hF := (r.bs.fo a _ ho).1
  refine ⟨a, vs, hv, hh, rd, fun vs' ds' rd' => ⟨⟨Le.refl _, fun b u hb eb => ?_, fun b q hb => .inl ⟨q, hb⟩, fun b u hb => .inl hb, al_upd⟩, ⟨⟨fun b u hb => ?_, fun b q hb => ?_⟩, by rw [List.length_set]; exact r.len, fun i m hm => ?_⟩⟩⟩
  · rw [upd_ne (fun z => by subst z; rw [ho] at eb; cases eb)]; exact hb
  · rw [upd_ne (ne_of_none hb hF)]; exact r.bs.fh b u hb
  · obtain ⟨h1, h2⟩ := r.bs.fo b q hb
    obtain ⟨u, hu⟩ := h2
    exact ⟨h1, al_upd b u hu⟩
  · rcases SS.at_set hm with ⟨e1, e2⟩ | ⟨ne, hm⟩
    · subst e1
      cases e2
      exact ⟨_, hv, a, vs', rfl, ho, upd_same, rd'⟩
    · obtain ⟨w, hw, rw'⟩ := r.sl i m hm
      refine ⟨w, hw, rw'.stay (Le.refl _) fun b u _ e1 e2 => ⟨?_, e1⟩⟩
      rw [upd_ne (fun z => by subst z; rw [ho] at e1; cases e1; exact ne rfl)]
      exact e2
noncomputable def isL : Option M → Bool
  | some (.lst _) => true
  | some (.d (.lst _)) => true
  | _ => false
theorem Rp.isL {K : KG} {H F : Hp} {O : OW} {σ : St} {S : SS} {j : Nat} {v : V} (r : Rp K H F O σ S) (h : Ev.isL (S.at j) = true) (hv : σ[j]? = some (some v)) : tyV K "list" v H := by
  cases em : S.at j with
  | none => rw [em] at h; cases h
  | some m =>
    rw [em] at h
    obtain ⟨w, hw, rm⟩ := r.sl j m em
    rw [hv] at hw
    cases hw
    cases m with
    | lst xs =>
      obtain ⟨a, vs, rfl, _, hh, _⟩ := rm
      exact .inl ⟨rfl, vs, .inl (.inl hh)⟩
    | d x =>
      cases x with
      | lst xs =>
        cases (show RepD K F v (.lst xs) from rm) with
        | lst hs _ => exact .inl ⟨rfl, _, .inl (r.bs.fh.rd hs)⟩
      | _ => cases h
    | _ => cases h
noncomputable def isLq (j : Nat) : SS → R Unit := fun S => if isL (S.at j) = true then .ok () S else .no
/-- x.append(e) -/
noncomputable def mApp (j : Nat) (f : FE) : FM := fun S => (isLq j S).bind fun _ S => (f S).bind fun o S => match force o S with
  | some (x, S1) => (match S1.at j with
    | some (.lst xs) => if xs.length < line then .ok (.d .non) (S1.set j (some (.lst (xs ++ [x])))) else .no
    | _ => .no)
  | none => .no
theorem isLq_ok {j : Nat} {S S' : SS} {u : Unit} (h : isLq j S = .ok u S') : S' = S ∧ isL (S.at j) = true := by
  unfold isLq at h
  split at h
  · rename_i hl; cases h; exact ⟨rfl, hl⟩
  · cases h
theorem at_slot {K : KG} {H F : Hp} {O : OW} {σ : St} {S : SS} {j : Nat} (r : Rp K H F O σ S) (h : Ev.isL (S.at j) = true) : ∃ v, σ[j]? = some (some v) := by
  cases em : S.at j with
  | none => rw [em] at h; cases h
  | some m =>
    obtain ⟨w, hw, _⟩ := r.sl j m em
    exact ⟨w, hw⟩
theorem dm_app {j : Nat} {o : Expr} {apos cpos : Pos} {f : FE} (ho : PE X o (tVar j)) (he : DE X f e) (hbase : attributeBase o "append" X.env (eval o X.env) = eval o X.env := by rfl)
    (hfew : ((backTo cpos (starEach [e] X.env)).all (fun x => !x.1) && (backToKw cpos (keywordEach [] X.env)).all (fun x => x.1.isSome)
      && decide ([e].length + ([] : List Keyword).length + (if ([] : List Keyword).isEmpty then 0 else 1) < 30)) = true := by rfl)
    (hline : (apos.endLine == cpos.line) = true := by rfl) (hs : starEach [e] X.env = (false, eval e X.env) :: starEach [] X.env := by rfl) (hplain : (backTo cpos (starEach [] X.env)).any (·.1) = false := by rfl) :
    DM X (mApp j f) (.Call (.Attribute o "append" apos) [e] [] cpos) :=
  PE.imp (pe_bm PySem.F.plainAttrs_list PySem.F.slot_list_append PySem.F.type_list_append mt_append ho (pa_cons he pa_nil hs) hbase hfew hline hs hplain) fun σ H Q ⟨F, O, S, m, S', r, hf, k⟩ => by
    obtain ⟨_, S0, h1, h2⟩ := R.bind_ok hf
    obtain ⟨e0, hl0⟩ := isLq_ok h1
    subst e0
    obtain ⟨oo, S1, h3, h4⟩ := R.bind_ok h2
    obtain ⟨v, hv⟩ := at_slot r hl0
    refine ⟨v, hv, r.isL hl0 hv, F, O, S0, oo, S1, r, h3, fun u H1 F1 O1 st1 r1 ro => ?_⟩
    show rAppend v [u] H1 Q
    cases ef : force oo S1 with
    | none => rw [ef] at h4; cases h4
    | some z =>
      obtain ⟨x, S2⟩ := z
      rw [ef] at h4
      dsimp only at h4
      obtain ⟨F2, O2, st2, r2, rx⟩ := force_ok r1 ro ef
      split at h4
      · rename_i xs em
        split at h4
        · rename_i hlt
          cases h4
          obtain ⟨a, vs, hv2, hH, rv, chg⟩ := r2.mut em
          rw [hv] at hv2
          cases hv2
          obtain ⟨st3, r3⟩ := chg (vs ++ [u]) (xs ++ [x]) (rv.snoc rx)
          exact ⟨a, vs, u, rfl, rfl, hH, by rw [rv.len, ← line_eq]; exact hlt, k _ _ _ _ ((st1.trans st2).trans st3) r3 .non⟩
        · cases h4
      · cases h4
/-- x.pop() -/
noncomputable def mPop (j : Nat) : FM := fun S => match S.at j with
  | some (.lst xs) => (match xs.getLast? with
    | some x => .ok (.d x) (S.set j (some (.lst xs.dropLast)))
    | none => .no)
  | _ => .no
theorem dm_pop {j : Nat} {o : Expr} {apos cpos : Pos} (ho : PE X o (tVar j)) (hbase : attributeBase o "pop" X.env (eval o X.env) = eval o X.env := by rfl) (hline : (apos.endLine == cpos.line) = true := by rfl) :
    DM X (mPop j) (.Call (.Attribute o "pop" apos) [] [] cpos) :=
  PE.imp (pe_bm0 PySem.F.plainAttrs_list PySem.F.slot_list_pop PySem.F.type_list_pop mt_pop ho hbase hline) fun σ H Q ⟨F, O, S, m, S', r, hf, k⟩ => by
    unfold mPop at hf
    split at hf
    · rename_i xs em
      split at hf
      · rename_i x hx
        cases hf
        obtain ⟨a, vs, hv, hH, rv, chg⟩ := r.mut em
        have hx2 : xs[xs.length - 1]? = some x := by rw [← List.getLast?_eq_getElem?]; exact hx
        obtain ⟨u, hu, ru⟩ := rv.get hx2
        obtain ⟨st3, r3⟩ := chg vs.dropLast xs.dropLast rv.dropLast
        exact ⟨_, hv, r.isL (by rw [em]; rfl) hv, a, vs, u, rfl, rfl, hH, by rw [rv.len]; exact hu, k _ _ _ _ st3 r3 ru⟩
      · cases hf
    · cases hf
/-- x[i] = e -/
noncomputable def putIx (j : Nat) (k : D) (x : D) (S : SS) : Option SS := match k, S.at j with
  | .int k, some (.lst xs) => (match ixN xs.length k with
    | some n => some (S.set j (some (.lst (xs.set n x))))
    | none => none)
  | _, _ => none
theorem putIx_ok {j : Nat} {k x : D} {S S' : SS} (h : putIx j k x S = some S') : ∃ i xs n, k = .int i ∧ S.at j = some (.lst xs) ∧ ixN xs.length i = some n ∧ S' = S.set j (some (.lst (xs.set n x))) := by
  unfold putIx at h
  split at h
  · rename_i i xs em
    split at h
    · rename_i n hn
      cases h
      exact ⟨i, xs, n, rfl, em, hn, rfl⟩
    · cases h
  · cases h
noncomputable def sSetIx (j : Nat) (f fi : FE) : FS := fun S => (f S).bind fun o S => match force o S with
  | some (x, S1) => (isLq j S1).bind fun _ S1 => (fi S1).bind fun i S2 => (match i.get S2 with
    | some k => (match putIx j k x S2 with
      | some S3 => .ok .nx S3
      | none => .no)
    | none => .no)
  | none => .no
theorem ds_setIx {kp : Nat → Bool} {j : Nat} {o i : Expr} {spos : Pos} {f fi : FE} (he : DE X f e) (ho : PE X o (tVar j)) (hi : DE X fi i)
    (ha : ∀ v, assign (.Subscript o i pos) X.env v = (do
      let ov ← holding [v] (eval o X.env)
      let iv ← holding [v, ov] (eval i X.env)
      standAt pos
      holding [v, ov, iv] (setItem ov iv v)
      release [v, ov, iv] []) := by intro _; rfl)
    (hs : swapsWithSole [.Subscript o i pos] e spos.line X.env = pure false := by rfl) (hw : swappedStores [.Subscript o i pos] e X.env = pure none := by rfl)
    (h1 : (assignEach [.Subscript o i pos] X.env).map (·.2) = [assign (.Subscript o i pos) X.env] := by rfl) : DS X kp (sSetIx j f fi) (.Assign [.Subscript o i pos] e spos) :=
  PS.imp (ps_asg he (pg_sub ho hi set_list ha) hs hw h1) fun D σ H ⟨F, O, S, fl, S', r, hf, k⟩ => by
    obtain ⟨oo, S1, h1, h2⟩ := R.bind_ok hf
    refine ⟨F, O, S, oo, S1, r, h1, fun v H1 F1 O1 st1 r1 ro => ?_⟩
    cases ef : force oo S1 with
    | none => rw [ef] at h2; cases h2
    | some z =>
      obtain ⟨x, S2⟩ := z
      rw [ef] at h2
      dsimp only at h2
      obtain ⟨F2, O2, st2, r2, rx⟩ := force_ok r1 ro ef
      obtain ⟨_, S2', h3, h4⟩ := R.bind_ok h2
      obtain ⟨e0, hl0⟩ := isLq_ok h3
      subst e0
      obtain ⟨w, hw⟩ := at_slot r2 hl0
      obtain ⟨oi, S3, h5, h6⟩ := R.bind_ok h4
      refine ⟨w, hw, F2, O2, S2', oi, S3, r2, h5, fun iv H3 F3 O3 st3 r3 ri => ?_⟩
      cases eg : oi.get S3 with
      | none => rw [eg] at h6; cases h6
      | some kk =>
        rw [eg] at h6
        dsimp only at h6
        cases ep : putIx j kk x S3 with
        | none => rw [ep] at h6; cases h6
        | some S4 =>
          rw [ep] at h6
          cases h6
          obtain ⟨ii, xs, n, rfl, em, hn, rfl⟩ := putIx_ok ep
          obtain rfl := (r3.view ri eg).int
          obtain ⟨a, vs, hv2, hH, rv, chg⟩ := r3.mut em
          rw [hw] at hv2
          cases hv2
          obtain ⟨st4, r4⟩ := chg (vs.set n v) (xs.set n x) (RepDs.set (rx.mono st3.ff) n rv)
          exact ⟨a, vs, ii, n, rfl, rfl, hH, by rw [rv.len]; exact hn, k σ _ _ _ (((st1.trans st2).trans st3).trans st4) r4 (Kp.refl _ _)⟩
/-! ### x op= e -/
noncomputable def OpDi (X : Cx) (op : Operator) (g : D → D → Option M) : Prop := OpR X (inplaceOp op) (semR (kg X) g)
noncomputable def iaddD : D → D → Option M
  | .int i, .int j => some (.d (.int (i + j)))
  | .str x, .str y => if x.length + y.length ≤ line then some (.d (.str (x ++ y))) else none
  | _, _ => none
theorem oi_add : OpDi X .Add iaddD := by
  intro pins s σ H x y v u Q I rx ry ⟨F, a, b, m, l, va, vb, e, w⟩
  cases a with
  | int i =>
    obtain rfl := va.int
    cases b with
    | int j => obtain rfl := vb.int; cases e; exact iop_add pins s σ H _ _ v u Q I rx ry ⟨i, j, rfl, rfl, w.int⟩
    | _ => cases e
  | str i =>
    obtain rfl := va.str
    cases b with
    | str j =>
      obtain rfl := vb.str
      have e : (if i.length + j.length ≤ line then some (M.d (.str (i ++ j))) else none) = some m := e
      split at e
      · rename_i hz; cases e; exact iop_add_str pins s σ H _ _ v u Q I rx ry ⟨i, j, rfl, rfl, by rw [← line_eq]; exact hz, w.str⟩
      · cases e
    | _ => cases e
  | _ => cases e
noncomputable def sAug (i : Nat) (g : D → D → Option M) (f : FE) : FS := fun S => match S.at i with
  | some (.d x) => (f S).bind fun o S => (match o.get S with
    | some y => (match g x y with
      | some (.d z) => .ok .nx (S.set i (some (.d z)))
      | _ => .no)
    | none => .no)
  | _ => .no
theorem Rp.wishD {K : KG} {H F : Hp} {O : OW} {σ : St} {S : SS} {z : D} {Q : VK} (r : Rp K H F O σ S) (k : ∀ v H' F' O', Stp H F O H' F' O' → Rp K H' F' O' σ S → RepD K F' v z → Q v H') : Wish K H F (.d z) Q :=
  r.wish fun v H' F' O' st r' rm => k v H' F' O' st r' rm
theorem ds_aug {kp : Nat → Bool} {i : Nat} {x : Str} {op : Operator} {g : D → D → Option M} {f : FE} {pos' : Pos} (hN : X.N.Nodup) (hi : X.N[i]? = some x) (hx : Loc X.env.scope x) (hk : kp i = false) (he : DE X f e) (ho : OpDi X op g)
    (hf : X.fn x = true ∨ X.env.scope.names.lookup x = some .local := by first | exact .inl rfl | exact .inr rfl | assumption) : DS X kp (sAug i g f) (.AugAssign (.Name x pos') op e pos) :=
  PS.imp (ps_aug (ti := semR (kg X) g) hN hi hx he ho hf) fun D σ H ⟨F, O, S, fl, S', r, hf, k⟩ => by
    unfold sAug at hf
    split at hf
    · rename_i old em
      obtain ⟨o, S1, h1, h2⟩ := R.bind_ok hf
      obtain ⟨v, hv, rm⟩ := r.sl i _ em
      refine ⟨v, hv, F, O, S, o, S1, r, h1, fun u H1 F1 O1 st1 r1 ro => ?_⟩
      cases eg : o.get S1 with
      | none => rw [eg] at h2; cases h2
      | some y =>
        rw [eg] at h2
        dsimp only at h2
        cases ez : g old y with
        | none => rw [ez] at h2; cases h2
        | some m =>
          rw [ez] at h2
          cases m with
          | d z =>
            cases h2
            exact ⟨F1, old, y, _, r1.bs.fh, .fz (RepD.mono st1.ff rm), r1.view ro eg, ez, r1.wishD fun w H2 F2 O2 st2 r2 rz => k _ H2 F2 O2 (st1.trans st2) (r2.putD rz) (Kp.set hk)⟩
          | _ => cases h2
    · cases hf
theorem pget_list : PGet X (rIxL X.K) := by
  intro pins s σ H o i ov iv Q I ro ri h
  obtain ⟨p, xs, i, z, rfl, rfl, hq, he, q⟩ := h
  cases ro
  obtain ⟨t, rfl⟩ := ri
  obtain ⟨its, r, pl, hz⟩ := I.list hq
  obtain ⟨j, h1, h2, h3, h4, h5⟩ := atI_get he
  obtain ⟨w, ew, rw'⟩ := r.get h2
  have hl := r.length
  have hn := line63
  have fin : EP X pins σ Q w s := ⟨z, H, I, rw', q⟩
  by_cases h0 : 0 ≤ i
  · have hj : i.toNat = j := by
      rw [PySem.seqIndex_of h0 h5] at h1
      exact Option.some.inj h1
    exact wpAny_getItem_list pl.isList h0 (by omega) (by rw [hj]; simpa using ew) fin
  · have hj : (i + (its.toArray.size : Int)).toNat = j := by
      rw [PySem.seqIndex_neg (by omega) h4] at h1
      rw [List.size_toArray, ← hl]
      exact Option.some.inj h1
    exact wpAny_getItem_list_neg pl.isList (by omega) (by rw [List.size_toArray] <;> omega) (by omega) (by rw [hj]; simpa using ew) fin
/-- x[i] op= e -/
noncomputable def sAugIx (j : Nat) (g : D → D → Option M) (fi f : FE) : FS := fun S => (isLq j S).bind fun _ S => (fi S).bind fun oi S => match oi.get S, S.at j with
  | some (.int k), some (.lst xs) => (match atI xs k with
    | some old => (f S).bind fun o S => (match o.get S with
      | some y => (match g old y with
        | some (.d z) => (match putIx j (.int k) z S with
          | some S3 => .ok .nx S3
          | none => .no)
        | _ => .no)
      | none => .no)
    | none => .no)
  | _, _ => .no
theorem ds_augIx {kp : Nat → Bool} {j : Nat} {o i : Expr} {op : Operator} {g : D → D → Option M} {f fi : FE} {tpos : Pos} (ho : PE X o (tVar j)) (hi : DE X fi i) (he : DE X f e) (hop : OpDi X op g)
    (ha : ∀ ov iv new, augStore i ov iv new = (do holding [new, ov, iv] (setItem ov iv new); release [new, ov, iv] []; pure .next) := by intros; rfl) : DS X kp (sAugIx j g fi f) (.AugAssign (.Subscript o i tpos) op e pos) :=
  PS.imp (ps_augS ho hi pget_list he (show PIp X op (semR (kg X) g) from hop) set_list ha) fun D σ H ⟨F, O, S, fl, S', r, hf, k⟩ => by
    obtain ⟨_, S0, h1, h2⟩ := R.bind_ok hf
    obtain ⟨e0, hl0⟩ := isLq_ok h1
    subst e0
    obtain ⟨w, hw⟩ := at_slot r hl0
    obtain ⟨oi, S1, h3, h4⟩ := R.bind_ok h2
    refine ⟨w, hw, F, O, S0, oi, S1, r, h3, fun iv H1 F1 O1 st1 r1 ri => ?_⟩
    split at h4
    · rename_i kk xs eg em
      obtain rfl := (r1.view ri eg).int
      obtain ⟨a, vs, hv2, hH, rv, _⟩ := r1.mut em
      rw [hw] at hv2
      cases hv2
      cases ea : atI xs kk with
      | none => rw [ea] at h4; cases h4
      | some old =>
        rw [ea] at h4
        dsimp only at h4
        obtain ⟨vo, hvo, rvo⟩ := rv.ati ea
        refine ⟨a, vs, kk, vo, rfl, rfl, .inl (.inl hH), hvo, ?_⟩
        obtain ⟨oo, S2, h5, h6⟩ := R.bind_ok h4
        refine ⟨F1, O1, S1, oo, S2, r1, h5, fun u H2 F2 O2 st2 r2 ro => ?_⟩
        cases eg2 : oo.get S2 with
        | none => rw [eg2] at h6; cases h6
        | some y =>
          rw [eg2] at h6
          dsimp only at h6
          cases ez : g old y with
          | none => rw [ez] at h6; cases h6
          | some m =>
            rw [ez] at h6
            cases m with
            | d z =>
              dsimp only at h6
              cases ep : putIx j (.int kk) z S2 with
              | none => rw [ep] at h6; cases h6
              | some S3 =>
                rw [ep] at h6
                cases h6
                obtain ⟨ii, xs2, n, e1, em2, hn, rfl⟩ := putIx_ok ep
                cases e1
                refine ⟨F2, old, y, _, r2.bs.fh, .fz (RepD.mono st2.ff rvo), r2.view ro eg2, ez, r2.wishD fun vz H3 F3 O3 st3 r3 rz => ?_⟩
                obtain ⟨a2, vs2, hv3, hH2, rv2, chg2⟩ := r3.mut em2
                rw [hw] at hv3
                cases hv3
                obtain ⟨st4, r4⟩ := chg2 (vs2.set n vz) (xs2.set n z) (RepDs.set rz n rv2)
                exact ⟨_, vs2, kk, n, rfl, rfl, hH2, by rw [rv2.len]; exact hn, k σ _ _ _ (((st1.trans st2).trans st3).trans st4) r4 (Kp.refl _ _)⟩
            | _ => cases h6
    · cases h4

/-! ### built-ins -/
inductive Views (K : KG) (H F : Hp) : List V → List D → Prop
  | nil : Views K H F [] []
  | cons {v : V} {vs : List V} {d : D} {ds : List D} : View K H F v d → Views K H F vs ds → Views K H F (v :: vs) (d :: ds)
noncomputable def semC (K : KG) (g : List D → Option M) : List V → Hp → VK → Prop := fun vs H Q => ∃ F xs m, Le F H ∧ Views K H F vs xs ∧ g xs = some m ∧ Wish K H F m Q
noncomputable def getAll : List Ov → SS → Option (List D)
  | [], _ => some []
  | o :: os, S => match o.get S with
    | some d => (match getAll os S with
      | some ds => some (d :: ds)
      | none => none)
    | none => none
theorem getAll_ok {K : KG} {H F : Hp} {O : OW} {σ : St} {S : SS} (r : Rp K H F O σ S) : ∀ {vs : List V} {os : List Ov} {ds : List D}, RepOvs K F σ vs os → getAll os S = some ds → Views K H F vs ds
  | _, _, _, .nil, h => by cases h; exact .nil
  | _, o :: os, ds, .cons ro rs, h => by
    have h : (match o.get S with | some d => (match getAll os S with | some ds => some (d :: ds) | none => none) | none => none) = some ds := h
    cases e1 : o.get S with
    | none => rw [e1] at h; cases h
    | some d =>
      rw [e1] at h
      dsimp only at h
      cases e2 : getAll os S with
      | none => rw [e2] at h; cases h
      | some dr =>
        rw [e2] at h
        cases h
        exact .cons (r.view ro e1) (getAll_ok r rs e2)
noncomputable def mBlt (g : List D → Option M) (fas : FA) : FM := fun S => (fas S).bind fun os S => match getAll os S with
  | some ds => (match g ds with
    | some m => .ok m S
    | none => .no)
  | none => .no
theorem blt_rd {K : KG} {g : List D → Option M} {fas : FA} {σ : St} {H : Hp} {Q : VK} (h : rdM K (mBlt g fas) σ H Q) : tCB (semC K g) (rdA K fas) σ H Q := by
  obtain ⟨F, O, S, m, S', r, hf, k⟩ := h
  obtain ⟨os, S1, h1, h2⟩ := R.bind_ok hf
  refine ⟨F, O, S, os, S1, r, h1, fun vs H1 F1 O1 st1 r1 ro => ?_⟩
  cases eg : getAll os S1 with
  | none => rw [eg] at h2; cases h2
  | some ds =>
    rw [eg] at h2
    dsimp only at h2
    cases em : g ds with
    | none => rw [em] at h2; cases h2
    | some m' =>
      rw [em] at h2
      cases h2
      exact ⟨F1, ds, m, r1.bs.fh, getAll_ok r1 ro eg, em, r1.wish fun w H2 F2 O2 st2 r2 rm => k w H2 F2 O2 (st1.trans st2) r2 rm⟩
theorem dm_blt {id : String} {x : Str} {es : List Expr} {p : Pos} {g : List D → Option M} {fas : FA} (hc : CallR X (.builtin id) (semC (kg X) g)) (hg : Gl X x) (hm : X.mg x = none) (hv : bootBuiltins x = some (.builtin id)) (ha : DA X fas (e :: es))
    (hn : x ≠ "__name__" := by decide) (hdb : (x == ("__debug__" : Str)) = false := by decide)
    (he : starEach (e :: es) X.env = (false, eval e X.env) :: starEach es X.env := by rfl) (hpl : (backTo pos (starEach es X.env)).any (·.1) = false := by rfl) : DM X (mBlt g fas) (.Call (.Name x p) (e :: es) [] pos) :=
  PE.imp (pe_callB hc hg hm hv ha hn hdb he hpl) fun σ H Q h => blt_rd h
theorem dm_bty {T : String} {x : Str} {es : List Expr} {p : Pos} {g : List D → Option M} {fas : FA} (hc : CallR X (.type T) (semC (kg X) g)) (hg : Gl X x) (hm : X.mg x = none) (hv : bootBuiltins x = some (.type T)) (ha : DA X fas (e :: es))
    (hn : x ≠ "__name__" := by decide) (hdb : (x == ("__debug__" : Str)) = false := by decide)
    (he : starEach (e :: es) X.env = (false, eval e X.env) :: starEach es X.env := by rfl) (hpl : (backTo pos (starEach es X.env)).any (·.1) = false := by rfl) : DM X (mBlt g fas) (.Call (.Name x p) (e :: es) [] pos) :=
  PE.imp (pe_callTy hc hg hm hv ha hn hdb he hpl) fun σ H Q h => blt_rd h
end

noncomputable def D.knd : D → String
  | .non => "NoneType"
  | .bl _ => "bool"
  | .int _ => "int"
  | .str _ => "str"
  | .tup _ => "tuple"
  | .lst _ => "list"
  | .dk _ => "dict"
  | .dt _ => "dict"
  | .odk => "dict"
  | _ => ""
noncomputable def on1 (g : D → Option M) : List D → Option M
  | [x] => g x
  | _ => none
noncomputable def on2 (g : D → D → Option M) : List D → Option M
  | [x, y] => g x y
  | _ => none
theorem call1 {X : Cx} {f : Value} {g : D → Option M} (h : ∀ (pins : List (Addr × Obj)) (s : Shared) (σ : St) (H F : Hp) (v : V) (x : D) (us : List Value) (m : M) (Q : VK), Inv X pins σ H s → Vals [v] us → Le F H → View (kg X) H F v x → g x = some m → Wish (kg X) H F m Q →
    wpAny (model X.prog X.w) X.A (call f us) (EP X pins σ Q) X.xe s) : CallR X f (semC (kg X) (on1 g)) := by
  intro pins s σ H vs us Q I r ⟨F, xs, m, l, w, e, wi⟩
  cases w with
  | nil => cases e
  | cons wx w =>
    cases w with
    | nil => exact h pins s σ H F _ _ us m Q I r l wx e wi
    | cons _ _ => cases e
theorem call2 {X : Cx} {f : Value} {g : D → D → Option M} (h : ∀ (pins : List (Addr × Obj)) (s : Shared) (σ : St) (H F : Hp) (v w : V) (x y : D) (us : List Value) (m : M) (Q : VK), Inv X pins σ H s → Vals [v, w] us → Le F H → View (kg X) H F v x → View (kg X) H F w y → g x y = some m → Wish (kg X) H F m Q →
    wpAny (model X.prog X.w) X.A (call f us) (EP X pins σ Q) X.xe s) : CallR X f (semC (kg X) (on2 g)) := by
  intro pins s σ H vs us Q I r ⟨F, xs, m, l, w, e, wi⟩
  cases w with
  | nil => cases e
  | cons wx w =>
    cases w with
    | nil => cases e
    | cons wy w =>
      cases w with
      | nil => exact h pins s σ H F _ _ _ _ us m Q I r l wx wy e wi
      | cons _ _ => cases e
noncomputable def isiK (k n : String) : Bool := k == n || (k == "bool" && n == "int")
noncomputable def isiD (x y : D) : Option M := match y with
  | .ty n => if x.knd ≠ "" ∧ (n = "int" ∨ n = "bool" ∨ n = "str" ∨ n = "tuple" ∨ n = "list" ∨ n = "dict") then some (.d (.bl (isiK x.knd n))) else none
  | _ => none
theorem View.tyX {K : KG} {H F : Hp} {v : V} {d : D} (l : Le F H) (h : View K H F v d) (hk : d.knd ≠ "") (ho : d ≠ .odk := by intro h; cases h) : TyX K H v (.type d.knd) := by
  have rd : ∀ {a : Addr} {vs : List V}, Rd H a (.lst vs) → TyX K H (.ref a) (.type "list") := fun {a vs} h => by
    rcases h with h | ⟨o, h⟩
    · exact .base (.lst h)
    · exact .base (.frz h)
  cases h with
  | fz h =>
    cases h with
    | non => exact .base .non
    | bl b => exact .base (.bl b)
    | int i => exact .base (.int i)
    | str x => exact .base (.str x)
    | tup hs _ =>
      rcases l.st hs.sq with (h | ⟨o, h⟩) | ⟨o, its, n, hk, hc, _⟩
      · exact .base (.tup h)
      · exact .fTuple h
      · exact .kTuple hk hc
    | lst hs _ => exact rd (l.rd hs)
    | dk hs _ _ =>
      rcases l.rd hs with h | ⟨o, h⟩
      · exact .base (.dK h)
      · exact .fDict h
    | ty n => exact absurd rfl hk
    | scr _ _ => exact absurd rfl hk
    | dt hs _ _ => exact .base (.dT (l _ _ hs))
    | obj _ _ _ _ => exact absurd rfl hk
    | any _ => exact absurd rfl hk
    | odk _ => exact absurd rfl ho
    | fn _ => exact absurd rfl hk
    | ctp _ _ => exact absurd rfl hk
    | xo _ _ _ _ => exact absurd rfl hk
  | lst h _ => exact .base (.lst h)
  | dk h _ _ => exact .base (.dK h)
  | dt h _ _ => exact .base (.dT h)
theorem kit_all : ∀ k ∈ ["NoneType", "bool", "int", "str", "tuple", "list", "dict"], ∀ n ∈ ["int", "bool", "str", "tuple", "list", "dict"], kitB k n = some (isiK k n) := by decide +kernel
section
variable {X : Cx}
theorem cd_isi : CallR X (.builtin "isinstance") (semC (kg X) (on2 isiD)) := call2 fun pins s σ H F v w x y us m Q I r l wx wt e wi => by
  cases y with
  | ty n =>
    obtain rfl := wt.ty
    have e : (if x.knd ≠ "" ∧ (n = "int" ∨ n = "bool" ∨ n = "str" ∨ n = "tuple" ∨ n = "list" ∨ n = "dict") then some (M.d (.bl (isiK x.knd n))) else none) = some m := e
    split at e
    · rename_i hh
      cases e
      have hk : kitB x.knd n = some (isiK x.knd n) := by
        refine kit_all _ ?_ _ ?_
        · have := hh.1
          cases x <;> simp [D.knd] at this ⊢
        · rcases hh.2 with h | h | h | h | h | h <;> simp [h]
      by_cases ho : x = .odk
      · subst ho
        obtain ⟨a, rfl, ha⟩ : ∃ a, v = .ref a ∧ F a = some (.ext (isDct a)) := by cases wx with | fz h => cases h with | odk h => exact ⟨_, rfl, h⟩
        obtain ⟨u1, u2, rfl, r1, r2⟩ := vals2 r
        cases (show u1 = Value.ref a from r1)
        have e2 := (ClsV.ty n).eq r2
        subst e2
        obtain ⟨hd, _, _⟩ := (show ObjOk X.prog X.w H s.heap a (.ext (isDct a)) from I.hok a _ (l _ _ ha))
        exact PySem.W.kia_one PySem.W.kitx_dict I.kIn hd (kit_ty hk) (fun z => nomatch z) fun tk => ⟨.bl _, H, I.tok tk, rfl, wi.bl⟩
      · exact call_isi pins s σ H _ us Q I r ⟨_, .ty n, _, .type n, isiK x.knd n, rfl, .ty n, wx.tyX l hh.1 ho, kit_ty hk, wi.bl⟩
    · cases e
  | _ => cases e
noncomputable def absD : D → Option M
  | .int i => some (.d (.int (if i < 0 then -i else i)))
  | _ => none
theorem cd_abs : CallR X (.builtin "abs") (semC (kg X) (on1 absD)) := call1 fun pins s σ H F v x us m Q I r l wx e wi => by
  cases x with
  | int i => obtain rfl := wx.int; cases e; exact call_abs pins s σ H _ us Q I r ⟨i, rfl, wi.int⟩
  | _ => cases e
noncomputable def lenD : D → Option M
  | .lst xs => some (.d (.int xs.length))
  | .scr xs => some (.d (.int xs.length))
  | .tup xs => some (.d (.int xs.length))
  | .str x => if x.length ≤ line then some (.d (.int x.length)) else none
  | _ => none
theorem cd_len : CallR X (.builtin "len") (semC (kg X) (on1 lenD)) := call1 fun pins s σ H F v x us m Q I r l wx e wi => by
  cases x with
  | lst ds =>
    obtain ⟨a, vs, rfl, h1, r1⟩ := wx.list l
    cases e
    exact call_len pins s σ H _ us Q I r ⟨_, _, rfl, .inl ⟨vs, .inl h1, rfl⟩, by rw [r1.len]; exact wi.int⟩
  | scr ds =>
    obtain ⟨a, vs, rfl, h1, r1⟩ := wx.scr l
    cases e
    exact call_len pins s σ H _ us Q I r ⟨_, _, rfl, .inl ⟨vs, h1, rfl⟩, by rw [r1.len]; exact wi.int⟩
  | tup ds =>
    obtain ⟨a, vs, rfl, h1, r1⟩ := wx.tuple l
    cases e
    exact call_len pins s σ H _ us Q I r ⟨_, _, rfl, .inr ⟨vs, h1, rfl⟩, by rw [r1.len]; exact wi.int⟩
  | str x =>
    obtain rfl := wx.str
    have e : (if x.length ≤ line then some (M.d (.int x.length)) else none) = some m := e
    split at e
    · rename_i hz
      cases e
      exact call_len pins s σ H _ us Q I r ⟨_, _, rfl, ⟨by rw [← line_eq]; exact hz, rfl⟩, wi.int⟩
    · cases e
  | _ => cases e
noncomputable def maxD : D → D → Option M
  | .int i, .int j => some (.d (.int (if j > i then j else i)))
  | _, _ => none
theorem cd_max (hc : X.calm = true) : CallR X (.builtin "max") (semC (kg X) (on2 maxD)) := call2 fun pins s σ H F v w x y us m Q I r l wx wy e wi => by
  cases x with
  | int i =>
    cases y with
    | int j => obtain rfl := wx.int; obtain rfl := wy.int; cases e; exact call_max2 hc pins s σ H _ us Q I r ⟨i, j, rfl, wi.int⟩
    | _ => cases e
  | _ => cases e
noncomputable def intD : D → Option M
  | .int i => some (.d (.int i))
  | .bl b => some (.d (.int (if b then 1 else 0)))
  | _ => none
theorem cd_int : CallR X (.type "int") (semC (kg X) (on1 intD)) := call1 fun pins s σ H F v x us m Q I r l wx e wi => by
  cases x with
  | int i => obtain rfl := wx.int; cases e; exact call_int1 pins s σ H _ us Q I r (.inl ⟨i, rfl, wi.int⟩)
  | bl i => obtain rfl := wx.bl; cases e; exact call_int1 pins s σ H _ us Q I r (.inr ⟨i, rfl, wi.int⟩)
  | _ => cases e
noncomputable def strD : D → Option M
  | .int i => if -(2 ^ 64) < i ∧ i < 2 ^ 64 then some (.d (.str (toString i))) else none
  | .str x => some (.d (.str x))
  | _ => none
theorem cd_str : CallR X (.type "str") (semC (kg X) (on1 strD)) := call1 fun pins s σ H F v x us m Q I r l wx e wi => by
  cases x with
  | int i =>
    obtain rfl := wx.int
    have e : (if -(2 ^ 64) < i ∧ i < 2 ^ 64 then some (M.d (.str (toString i))) else none) = some m := e
    split at e
    · rename_i hz
      cases e
      exact call_str_int pins s σ H _ us Q I r ⟨i, rfl, Nat.lt_of_lt_of_le (PySem.Flt.log2_lt_of (k := 64) (by decide) (by omega)) (by decide), wi.str⟩
    · cases e
  | str i => obtain rfl := wx.str; cases e; exact SkE.call_str_str pins s σ H _ us Q I r ⟨i, rfl, wi.str⟩
  | _ => cases e
noncomputable def listD : D → Option M
  | .lst xs => some (.lst xs)
  | .scr xs => some (.lst xs)
  | .tup xs => some (.lst xs)
  | _ => none
theorem cd_list : CallR X (.type "list") (semC (kg X) (on1 listD)) := call1 fun pins s σ H F v x us m Q I r l wx e wi => by
  cases x with
  | lst ds =>
    obtain ⟨a, vs, rfl, h1, r1⟩ := wx.list l
    cases e
    exact call_list_of pins s σ H _ us Q I r ⟨a, vs, rfl, .inl (.inl h1), fun p hp => wi.l _ p _ rfl hp r1⟩
  | scr ds =>
    obtain ⟨a, vs, rfl, h1, r1⟩ := wx.scr l
    cases e
    exact call_list_of pins s σ H _ us Q I r ⟨a, vs, rfl, .inl h1, fun p hp => wi.l _ p _ rfl hp r1⟩
  | tup ds =>
    obtain ⟨a, vs, rfl, h1, r1⟩ := wx.tuple l
    cases e
    exact call_list_of pins s σ H _ us Q I r ⟨a, vs, rfl, .inr h1, fun p hp => wi.l _ p _ rfl hp r1⟩
  | _ => cases e
noncomputable def tupleD : D → Option M
  | .lst xs => some (.d (.tup xs))
  | .tup xs => some (.d (.tup xs))
  | _ => none
theorem cd_tuple : CallR X (.type "tuple") (semC (kg X) (on1 tupleD)) := call1 fun pins s σ H F v x us m Q I r l wx e wi => by
  cases x with
  | lst ds =>
    obtain ⟨a, vs, rfl, h1, r1⟩ := wx.list l
    cases e
    exact call_tuple_of pins s σ H _ us Q I r ⟨a, vs, rfl, .inl ⟨.inl h1, fun p hp => wi.t _ p _ rfl hp r1⟩⟩
  | tup ds =>
    obtain ⟨a, vs, ev, h1, r1⟩ := wx.tuple l
    subst ev
    cases e
    refine call_tuple_of pins s σ H _ us Q I r ⟨a, vs, rfl, .inr ⟨h1, ?_⟩⟩
    cases wx with
    | fz h => exact wi.d _ _ rfl h
  | _ => cases e
noncomputable def asBls : List D → Option (List Bool)
  | [] => some []
  | .bl i :: ds => (asBls ds).map (i :: ·)
  | _ :: _ => none
theorem asBls_ok {K : KG} {F : Hp} : ∀ {ds : List D} {ns : List Bool} {vs : List V}, asBls ds = some ns → RepDs K F vs ds → vs = ns.map V.bl
  | [], _, _, e, .nil => by cases e; rfl
  | d :: ds, ns, _, e, .cons h r => by
    cases d with
    | bl i =>
      have e : (asBls ds).map (i :: ·) = some ns := e
      cases e2 : asBls ds with
      | none => rw [e2] at e; cases e
      | some ms =>
        rw [e2] at e
        cases e
        cases h
        rw [asBls_ok e2 r]
        rfl
    | _ => cases e
noncomputable def allD : D → Option M
  | .lst xs => (asBls xs).map fun ns => .d (.bl (ns.all id))
  | _ => none
theorem cd_all (hc : X.calm = true) : CallR X (.builtin "all") (semC (kg X) (on1 allD)) := call1 fun pins s σ H F v x us m Q I r l wx e wi => by
  cases x with
  | lst ds =>
    obtain ⟨a, vs, rfl, h1, r1⟩ := wx.list l
    have e : (asBls ds).map (fun ns => M.d (.bl (ns.all id))) = some m := e
    cases e2 : asBls ds with
    | none => rw [e2] at e; cases e
    | some ns =>
      rw [e2] at e
      cases e
      exact cr_all hc pins s σ H _ us Q I r ⟨a, ns, rfl, .inl (by rw [← asBls_ok e2 r1]; exact h1), wi.bl⟩
  | _ => cases e
end
/-! ### the law's end -/
/-- the script's list -/
noncomputable def scrD (ns : List Int) : D := .scr (ns.map .int)
theorem repDs_ints {K : KG} {F : Hp} : ∀ ns : List Int, RepDs K F (ns.map V.int) (ns.map D.int)
  | [] => .nil
  | n :: ns => .cons (.int n) (repDs_ints ns)
/-- a promise for each naming of classes -/
noncomputable def spA (K : PySem.W.Frag) (np : Nat) (g : List M → CR) : Sp := fun vs H Q E => ∀ cl, spD ⟨K, cl, none⟩ np g vs H Q E
theorem FnG.imp {P : Program} {w : World} {K : PySem.W.Frag} {mg : Str → Option Value} {base : Heap} {k : Nat} {f : Addr} {fd : FuncData} {ps : List Str} {sp sp' : Sp} (F : FnG P w K mg base k f fd ps sp)
    (h : ∀ vs H Q E, sp' vs H Q E → sp vs H Q E) : FnG P w K mg base k f fd ps sp' :=
  ⟨fun vs H Q E q => F.len vs H Q E (h _ _ _ _ q), fun A outer s H args us vs Q E hr he hb hv hs => F.run A outer s H args us vs Q E hr he hb hv (h _ _ _ _ hs)⟩
theorem FnG.all {P : Program} {w : World} {K : PySem.W.Frag} {mg : Str → Option Value} {base : Heap} {k np : Nat} {f : Addr} {fd : FuncData} {ps : List Str} {cl : Str → Option Addr} {g : List M → CR} (F : FnG P w K mg base k f fd ps (spD ⟨K, cl, none⟩ np g)) :
    FnG P w K mg base k f fd ps (spA K np g) := F.imp fun _ _ _ _ h => h cl
/-- what walk_of asks of the law's promise -/
theorem law_sp0 {K : KG} {g : List M → CR} {H : Hp} {a : Addr} {ns : List Int} (hH : L2.Only H) (hS : SqL K H a (ns.map V.int)) (hg : ∃ fin, g [.d (scrD ns)] = .ok (.d (.bl true)) fin) :
    spD K 1 g [.ref a] H (fun v _ => v = .bl true) fun _ _ _ => False := by
  obtain ⟨fin, hg⟩ := hg
  refine ⟨H, fun _ => none, [.d (scrD ns)], _, fin, rfl, rfl, ⟨Le.refl _, fun a q e => by cases e⟩, fun p m e => ?_, hg, fun v H' F' O' st bs rm rf => ?_⟩
  · cases p with
    | zero => simp at e; subst e; exact ⟨.ref a, by simp, .scr hS (repDs_ints ns)⟩
    | succ p => simp at e
  · cases (show RepD K F' v (.bl true) from rm)
    rfl
theorem law_sp {K : PySem.W.Frag} {g : List M → CR} {H : Hp} {a : Addr} {ns : List Int} (hH : L2.Only H) (hS : SqL K H a (ns.map V.int)) (hg : ∃ fin, g [.d (scrD ns)] = .ok (.d (.bl true)) fin) :
    spA K 1 g [.ref a] H (fun v _ => v = .bl true) fun _ _ _ => False := fun cl => law_sp0 (K := ⟨K, cl, none⟩) hH hS hg
/-- the law's call, from a promise that holds where no repr is under way -/
theorem law_callG {P : Program} {w : World} {K : PySem.W.Frag} {mg mb : Str → Option Value} {k : Nat} {fa a : Addr} {fd : FuncData} {x : Str} {sp : Sp} {s₁ : Shared} {vs : List Value} {ns : List Int}
    (KX : K.In s₁.heap) (hns : s₁.heap.Ns mainGlobals mg) (hb : s₁.heap.Ns builtinsNs mb) (hbb : ∀ x : Str, x ≠ "__name__" → mb x = bootBuiltins x) (hlim : s₁.heap.NoLimit) (hg : s₁.gens = #[])
    (ha : s₁.heap.get? a = some { cls := .type "list", data := .seq vs.toArray }) (hi : IntsAre vs ns) (hl : ns.length ≤ sizeLine) (hr : RoomG k callerA)
    (F : ∀ base : Heap, K.In base → base.Ns mainGlobals mg → FnG P w K mg base k fa fd [x] sp) (hbind : ∀ (s : Shared) (u : Value), BindsTo s fd ⟨[u], []⟩ [(x, u)])
    (hsp : ∀ H : Hp, L2.Only H → SqL K H a (ns.map V.int) → sp [.ref a] H (fun v _ => v = .bl true) fun _ _ _ => False) :
    codeAny (model P w) callerA (.call (.ref fa) ⟨[.ref a], []⟩) (fun r s' => r = .ok (.ret (.bool true)) ∧ OldK s₁.heap s'.heap ∧ s'.os = s₁.os ∧ AllBare s'.gens) s₁ := by
  have rv := L2.vals_ints hi
  have noB : ∀ b ∈ frs ([] : List Env), ∀ q : Prop, q := fun b z => absurd (show b ∈ ([] : List Addr) from z) (by simp)
  -- all from one abstract heap
  suffices h : ∃ H : Hp, L2.Only H ∧ SqL K H a (ns.map V.int) ∧ HOk P w H s₁.heap ∧ (∀ b, H b ≠ none → b = a ∧ K.lookup a = none) by
    obtain ⟨H, hO, hS, hok, hA⟩ := h
    have only : ∀ {b : Addr}, b ≠ a → H b = none := fun {b} n => by
      cases q : H b with
      | none => rfl
      | some u => exact absurd (hA b (by rw [q]; simp)).1 n
    have nsK : ∀ {b : Addr} {m : Str → Option Value}, s₁.heap.Ns b m → (hidT s₁.heap H).Ns b m := fun {b m} ⟨o, es, ep, e, d, r⟩ => by
      refine ⟨o, es, ep, hidT_get e (only fun z => ?_), d, r⟩
      rw [z, ha] at e
      cases e
      cases d
    have hKb : K.In (hidT s₁.heap H) := fun b o e => hidT_get (KX b o e) (by
      cases q : H b with
      | none => rfl
      | some u =>
        obtain ⟨rfl, z⟩ := hA b (by rw [q]; simp)
        rw [z] at e
        cases e)
    obtain ⟨mc, l1, l2⟩ := hlim
    have e0 : Env0 P w K mg (hidT s₁.heap H) callerA [] s₁ H :=
      ⟨rfl, ⟨hKb, nsK hns, ⟨mb, nsK hb, hbb⟩, ⟨mc, nsK l1, l2⟩⟩, fun b o e => of_hidT e, Nat.le_of_eq (hidT_size _ _), trivial, fun b z => noB b z _, hok, .of_eq hg⟩
    refine codeAny_mono ((F _ hKb (nsK hns)).run callerA [] s₁ H ⟨[.ref a], []⟩ [.ref a] [.ref a] _ _ hr e0 (hbind s₁ (.ref a)) (.cons rfl .nil) (hsp H hO hS)) fun r s' h => ?_
    cases r with
    | error e => exact False.elim h
    | ok fl =>
      cases fl with
      | next => exact False.elim h
      | brk => exact False.elim h
      | cont => exact False.elim h
      | ret u =>
        obtain ⟨v, H', os, bare, un, hok', r', rfl⟩ := h
        obtain rfl : u = Value.bool true := r'
        refine ⟨rfl, OldK.of_keep fun b o e => ?_, os, bare⟩
        rcases hO b with z | ⟨ob, xs, z⟩
        · exact un.keep b o e z (fun q => noB b q _) (by simp)
        · have e1 := (hok b _ z).1
          rw [e] at e1
          cases e1
          exact (hok' b _ (un.frzs b _ _ z)).1
  cases hk : K.lookup a with
  | some o =>
    have e := KX a o hk
    rw [ha] at e
    cases e
    exact ⟨fun _ => none, fun _ => .inl rfl, .inr ⟨_, vs.toArray, _, hk, rfl, rfl, rfl, by rw [List.size_toArray, hi.length]; exact hl, by simpa using rv⟩, fun b u z => absurd z (by intro q; cases q), fun b z => absurd rfl z⟩
  | none =>
    have at_ : ∀ b, (if b = a then some (HO.frz { cls := .type "list", data := .seq vs.toArray } (.lst (ns.map V.int))) else none) ≠ none → b = a := fun b z => by
      by_cases c : b = a
      · exact c
      · rw [if_neg c] at z; exact absurd rfl z
    refine ⟨fun b => if b = a then some (.frz { cls := .type "list", data := .seq vs.toArray } (.lst (ns.map V.int))) else none, fun b => ?_, .inl (.inr ⟨{ cls := .type "list", data := .seq vs.toArray }, if_pos rfl⟩), fun b u z => ?_, fun b z => ⟨at_ b z, rfl⟩⟩
    · by_cases c : b = a
      · exact .inr ⟨_, _, if_pos c⟩
      · exact .inl (if_neg c)
    · obtain rfl := at_ b (fun q => by have q2 := q.symm.trans z; cases q2)
      have z := (if_pos rfl).symm.trans z
      cases z
      exact ⟨ha, by rw [List.length_map]; exact hl, vs, _, rv, ha⟩
/-- what k_head leaves, from such a promise -/
theorem walk_g {l : PySem.W.OpenLaw} {n k : Nat} {q : Program} {loose : List Str} {XP : (Str → Option Value) → Heap → Prop} {YP : World → Heap → Prop} {d : DefRec} {K : Params → PySem.W.Frag} {sp : World → Sp} {x : Str}
    (hn : l.most = some n) (hn2 : n ≤ sizeLine) (hdf : d.params.defaults = []) (hr : RoomG k callerA)
    (hY : ∀ (w : World) (h : Heap), YP w h → (K w.params).In h)
    (F : ∀ (w : World) (mg : Str → Option Value) (fa : Addr) (h : Heap), (K w.params).In h → h.Ns mainGlobals mg → mg d.name = some (.ref fa) →
      ∃ fd : FuncData, (∀ (s : Shared) (u : Value), BindsTo s fd ⟨[u], []⟩ [(x, u)]) ∧
        ∀ base : Heap, (K w.params).In base → base.Ns mainGlobals mg → FnG l.prog w (K w.params) mg base k fa fd [x] (sp w))
    (hsp : ∀ (w : World) (H : Hp) (a : Addr) (ns : List Int), ns.length ≤ n → L2.Only H → SqL (K w.params) H a (ns.map V.int) → sp w [.ref a] H (fun v _ => v = .bl true) fun _ _ _ => False) :
    PySem.W.WalkO q loose XP YP l.row.toRowW d [] (fun f vs => PySem.call f vs) :=
  Att.attach_call hn hdf fun w s₀ s₁ mg mb fa o pm cd doc a vs ns G Y ho hd hcd hmg hobj hints hlen hg => by
    have KX := hY w _ Y
    obtain ⟨fd, hb, hF⟩ := F w mg fa _ KX G.T.g hmg
    exact law_callG KX G.T.g G.T.b G.T.builtins G.T.nolimit hg hobj hints (Nat.le_trans hlen hn2) hr hF hb (fun H hO hS => hsp w H a ns hlen hO hS)

noncomputable def kpl (l : List Bool) (i : Nat) : Bool := l.getD i false
theorem hu192 {A : Around} {k : Nat} (h : RoomG k A) : A.units + 192 < cLine := by have := h.rm.un; omega
noncomputable def GlobD (K : PySem.W.Frag) (mg : Str → Option Value) (x : Str) (d : D) : Prop := ∃ u v, mg x = some u ∧ RelV v u ∧ ∀ F, RepD (kg0 K mg) F v d
theorem de_g {X : Cx} {x : Str} {d : D} {pos : Pos} (hg : Gl X x) (h : GlobD X.K X.mg x d) (hd : (x == ("__debug__" : Str)) = false := by decide) : DE X (eC d) (.Name x pos) := by
  obtain ⟨u, v, hm, r, hr⟩ := h
  exact de_c (pe_glob hg hm r hd) fun F => RepD.cx (K := kg0 X.K X.mg) (K' := kg X) rfl rfl (hr F)
theorem globD_int {K : PySem.W.Frag} {mg : Str → Option Value} {x : Str} {i : Int} {t : Tok} (h : mg x = some (.int i t)) : GlobD K mg x (.int i) := ⟨_, .int i, h, ⟨t, rfl⟩, fun _ => .int i⟩
theorem globD_str {K : PySem.W.Frag} {mg : Str → Option Value} {x : Str} {i : Str} {t : Tok} (h : mg x = some (.str i t)) : GlobD K mg x (.str i) := ⟨_, .str i, h, ⟨t, rfl⟩, fun _ => .str i⟩
noncomputable def flatIs : List Value → List D → Bool
  | [], [] => true
  | .int i _ :: vs, .int j :: ds => decide (i = j) && flatIs vs ds
  | .str i _ :: vs, .str j :: ds => decide (i = j) && flatIs vs ds
  | _, _ => false
theorem flatIs_ok {K : KG} {F : Hp} : ∀ {us : List Value} {ds : List D}, flatIs us ds = true → ∃ vs, Vals vs us ∧ RepDs K F vs ds
  | [], [], _ => ⟨[], .nil, .nil⟩
  | .int i t :: us, .int j :: ds, h => by
    have h : (decide (i = j) && flatIs us ds) = true := h
    rw [Bool.and_eq_true] at h
    obtain ⟨vs, h1, h2⟩ := flatIs_ok (K := K) (F := F) h.2
    have e := of_decide_eq_true h.1
    subst e
    exact ⟨.int i :: vs, .cons ⟨t, rfl⟩ h1, .cons (.int i) h2⟩
  | .str i t :: us, .str j :: ds, h => by
    have h : (decide (i = j) && flatIs us ds) = true := h
    rw [Bool.and_eq_true] at h
    obtain ⟨vs, h1, h2⟩ := flatIs_ok (K := K) (F := F) h.2
    have e := of_decide_eq_true h.1
    subst e
    exact ⟨.str i :: vs, .cons ⟨t, rfl⟩ h1, .cons (.str i) h2⟩
theorem flatIs_len : ∀ {us : List Value} {ds : List D}, flatIs us ds = true → us.length = ds.length
  | [], [], _ => rfl
  | .int i t :: us, .int j :: ds, h => by
    have h : (decide (i = j) && flatIs us ds) = true := h
    rw [Bool.and_eq_true] at h
    rw [List.length_cons, List.length_cons, flatIs_len h.2]
  | .str i t :: us, .str j :: ds, h => by
    have h : (decide (i = j) && flatIs us ds) = true := h
    rw [Bool.and_eq_true] at h
    rw [List.length_cons, List.length_cons, flatIs_len h.2]
theorem globD_tup {K : PySem.W.Frag} {mg : Str → Option Value} {x : Str} {a : Addr} {o : Obj} {its : Array Value} {n : Nat} {ds : List D} (h : mg x = some (.ref a)) (hl : K.lookup a = some o) (hc : o.cls = .type "tuple") (hd : o.data = .seq its n)
    (hf : flatIs its.toList ds = true) (hz : ds.length ≤ 1000 := by decide) (hs : ds.all D.isS = true := by rfl) (hn : ds ≠ [] := by simp) : GlobD K mg x (.tup ds) := by
  refine ⟨_, .ref a, h, rfl, fun F => ?_⟩
  obtain ⟨vs, h1, h2⟩ := flatIs_ok (K := (kg0 K mg)) (F := F) hf
  have hz2 : its.size ≤ sizeLine := by rw [← Array.length_toList, flatIs_len hf, sizeLine_eq]; omega
  exact .tup (.inr ⟨.inr ⟨o, its, n, hl, hc, hd, hz2, h1⟩, hs, hn⟩) h2
theorem fnD_zero {P : Program} {w : World} {K : PySem.W.Frag} {mg : Str → Option Value} {base : Heap} {n : Nat} {x qual : Str} {st : Stmt} {f : Addr} {fd : FuncData} {ps : List Str} (F : Fun K x qual st f fd) (m : mg x = some (.ref f)) (b : Binds K fd ps []) :
    FnD P w K mg base n x ps.length (fun _ => .no) := by
  refine ⟨f, fd, ps, rfl, ⟨fun vs H Q E ⟨_, _, _, _, _, h, _⟩ => h, fun A outer s H args us vs Q E _ _ _ _ h => ?_⟩, m, F.kp, b⟩
  obtain ⟨_, _, _, _, _, _, _, _, _, h, _⟩ := h
  cases h
theorem fnD_zeroV {P : Program} {w : World} {K : PySem.W.Frag} {mg : Str → Option Value} {base : Heap} {n : Nat} {x qual : Str} {st : Stmt} {f : Addr} {fd : FuncData} {ps : List Str} (F : FunV K x qual st f fd) (m : mg x = some (.ref f)) (b : Binds K fd ps []) :
    FnD P w K mg base n x ps.length (fun _ => .no) := by
  refine ⟨f, fd, ps, rfl, ⟨fun vs H Q E ⟨_, _, _, _, _, h, _⟩ => h, fun A outer s H args us vs Q E _ _ _ _ h => ?_⟩, m, F.kp, b⟩
  obtain ⟨_, _, _, _, _, _, _, _, _, h, _⟩ := h
  cases h
/-- all parameters are given, though some have defaults -/
theorem bindsV {K : PySem.W.Frag} {x qual : Str} {st : Stmt} {f T : Addr} {oc : Value} {od an : Option Addr} {osl : Array (Option Value)} {kV doc pm cdv ct : Value} {o : Obj} {its : Array Value} {n : Nat} {ds : List D} {ps : List Str} (l : K.lookup f = some ⟨oc, od, .func (PySem.W.fnOf x qual (defArgs st) (defBody st) (defScope st) (.ref T) kV doc pm an cdv ct), osl⟩)
    (c : PySem.W.codeIn K cdv qual = true) (k : PySem.W.keepIn K (.ref f) = true) (y : K.lookup T = some o) (yd : o.data = .seq its n) (ye : flatIs its.toList ds = true) (hne : ds ≠ [])
    (h : ∀ (T : Addr) (kV doc pm : Value) (an : Option Addr) (cdv ct : Value) (us its : List Value), us.length = ps.length → its.length = ds.length →
      ∃ k, bindArgs (PySem.W.fnOf x qual (defArgs st) (defBody st) (defScope st) (.ref T) kV doc pm an cdv ct) ⟨us, []⟩ = seqItems? (.ref T) >>= k ∧ k (some its.toArray) = pure (ps.zip us)) :
    Binds K (PySem.W.fnOf x qual (defArgs st) (defBody st) (defScope st) (.ref T) kV doc pm an cdv ct) ps [] := by
  obtain ⟨vs, h1, h2⟩ := flatIs_ok (K := ⟨K, fun _ => none, none⟩) (F := fun _ => none) ye
  have hl := h2.len
  have hv : vs ≠ [] := fun e => by
    rw [e] at hl
    cases ds with
    | nil => exact hne rfl
    | cons _ _ => simp at hl
  have F : FunD K x qual (defArgs st) (defBody st) (defScope st) vs [] f (PySem.W.fnOf x qual (defArgs st) (defBody st) (defScope st) (.ref T) kV doc pm an cdv ct) :=
    ⟨⟨oc, od, _, kV, doc, pm, an, cdv, ct, osl, rfl, l, c, .inr ⟨hv, T, o, its.toList, n, rfl, y, by rw [yd, Array.toArray_toList], h1⟩, .inl rfl⟩, k⟩
  obtain ⟨ds', r, b⟩ := F.binds1 (ps := ps) ps.length vs.length hv (by omega) fun T kV doc pm an cdv ct us its e1 e2 => by
    obtain ⟨k, q1, q2⟩ := h T kV doc pm an cdv ct us its e1 (by rw [e2, hl])
    refine ⟨k, q1, ?_⟩
    rw [q2, ← e2, List.drop_length, List.append_nil]
  rw [List.drop_length] at r
  cases r
  exact b

@[simp] theorem at_nil (i : Nat) : SS.at [] i = none := (rfl)
@[simp] theorem at_zero (m : Option M) (S : SS) : SS.at (m :: S) 0 = m := (rfl)
@[simp] theorem at_succ (m : Option M) (S : SS) (i : Nat) : SS.at (m :: S) (i + 1) = SS.at S i := (rfl)
@[simp] theorem get_d (x : D) (S : SS) : Ov.get (.d x) S = some x := (rfl)
@[simp] theorem get_j (i : Nat) (S : SS) : Ov.get (.j i) S = (S.at i).bind M.vw := (rfl)
@[simp] theorem bind_ok {α β : Type} (a : α) (S : SS) (g : α → SS → R β) : R.bind (.ok a S) g = g a S := (rfl)
@[simp] theorem bind_ex {α β : Type} (a : Exn) (S : SS) (g : α → SS → R β) : R.bind (.ex a S) g = .ex a S := (rfl)
@[simp] theorem bind_no {α β : Type} (g : α → SS → R β) : R.bind .no g = .no := (rfl)
@[simp] theorem toD_d (x : D) : M.toD (.d x) = x := (rfl)
@[simp] theorem toD_lst (x : List D) : M.toD (.lst x) = .lst x := (rfl)
@[simp] theorem toD_dk (x : List (Key × D)) : M.toD (.dk x) = .dk x := (rfl)
@[simp] theorem toD_dt (x : List (List Key × D)) : M.toD (.dt x) = .dt x := (rfl)
@[simp] theorem toD_seq (x : List M) : M.toD (.seq x) = .lst (M.toDs x) := (rfl)
@[simp] theorem toD_box (x : List M) : M.toD (.box x) = .tup (M.toDs x) := (rfl)
@[simp] theorem toD_ob (c : Str) (ns : List Str) (x : List M) : M.toD (.ob c ns x) = .obj c (ns.zip (M.toDs x)) := (rfl)
@[simp] theorem toDs_nil : M.toDs [] = [] := (rfl)
@[simp] theorem toDs_cons (m : M) (ms : List M) : M.toDs (m :: ms) = m.toD :: M.toDs ms := (rfl)
@[simp] theorem vw_d (x : D) : M.vw (.d x) = some x := (rfl)
@[simp] theorem vw_lst (x : List D) : M.vw (.lst x) = some (.lst x) := (rfl)
@[simp] theorem vw_dk (x : List (Key × D)) : M.vw (.dk x) = some (.dk x) := (rfl)
@[simp] theorem vw_dt (x : List (List Key × D)) : M.vw (.dt x) = some (.dt x) := (rfl)
@[simp] theorem own_d (x : D) : M.own (.d x) = false := (rfl)
@[simp] theorem own_lst (x : List D) : M.own (.lst x) = true := (rfl)
@[simp] theorem own_dk (x : List (Key × D)) : M.own (.dk x) = true := (rfl)
@[simp] theorem own_dt (x : List (List Key × D)) : M.own (.dt x) = true := (rfl)
@[simp] theorem own_seq (x : List M) : M.own (.seq x) = true := (rfl)
@[simp] theorem own_box (x : List M) : M.own (.box x) = true := (rfl)
@[simp] theorem own_ob (c : Str) (ns : List Str) (x : List M) : M.own (.ob c ns x) = true := (rfl)
@[simp] theorem isL_lst (x : List D) : isL (some (.lst x)) = true := (rfl)
@[simp] theorem asB_bl (b : Bool) (S : SS) : asB (.d (.bl b)) S = .ok b S := (rfl)

/-- the words of expressions and statements, to be reckoned -/
@[simp] theorem eN_ap (i : Nat) (S : SS) : eN i S = match S.at i with | some _ => .ok (.j i) S | none => .no := (rfl)
@[simp] theorem eC_ap (d : D) (S : SS) : eC d S = .ok (.d d) S := (rfl)
@[simp] theorem eM_ap (f : FM) (S : SS) : eM f S = (f S).bind fun m S => .ok (.d m.toD) S := (rfl)
@[simp] theorem force_d (x : D) (S : SS) : force (.d x) S = some (x, S) := (rfl)
@[simp] theorem force_j (i : Nat) (S : SS) : force (.j i) S = match S.at i with | some m => some (m.toD, S.set i (some (.d m.toD))) | none => none := (rfl)
@[simp] theorem mE_ap (f : FE) (S : SS) : mE f S = (f S).bind fun o S => match force o S with | some (d, S') => .ok (.d d) S' | none => .no := (rfl)
@[simp] theorem onD_ap (g : D → D → Option M) (a b : Ov) (S : SS) : onD g a b S = match a.get S, b.get S with | some x, some y => (match g x y with | some m => .ok m S | none => .no) | _, _ => .no := (rfl)
@[simp] theorem mBin_ap (g : D → D → Option M) (fa fb : FE) (S : SS) : mBin g fa fb S = (fa S).bind fun a S => (fb S).bind fun b S => onD g a b S := (rfl)
@[simp] theorem tM_ap (f : FM) (S : SS) : tM f S = (f S).bind asB := (rfl)
@[simp] theorem tAnd_ap (f g : FB) (S : SS) : tAnd' f g S = (f S).bind fun c S => if c = true then g S else .ok false S := (rfl)
@[simp] theorem tOr_ap (f g : FB) (S : SS) : tOr' f g S = (f S).bind fun c S => if c = true then .ok true S else g S := (rfl)
@[simp] theorem tNot_ap (f : FB) (S : SS) : tNot' f S = (f S).bind fun c S => .ok (!c) S := (rfl)
@[simp] theorem vAnd_ap (f g : FM) (S : SS) : vAnd f g S = (f S).bind fun m S => (asB m S).bind fun c S => if c = true then g S else .ok (.d (.bl false)) S := (rfl)
@[simp] theorem vOr_ap (f g : FM) (S : SS) : vOr f g S = (f S).bind fun m S => (asB m S).bind fun c S => if c = true then .ok (.d (.bl true)) S else g S := (rfl)
@[simp] theorem vNot_ap (f : FM) (S : SS) : vNot f S = (f S).bind fun m S => (asB m S).bind fun c S => .ok (.d (.bl (!c))) S := (rfl)
@[simp] theorem mIf_ap (t : FB) (f g : FM) (S : SS) : mIf t f g S = (t S).bind fun c S => if c = true then f S else g S := (rfl)
@[simp] theorem aNil_ap (S : SS) : aNil S = .ok [] S := (rfl)
@[simp] theorem aCons_ap (f : FE) (g : FA) (S : SS) : aCons f g S = (f S).bind fun o S => (g S).bind fun os S => .ok (o :: os) S := (rfl)
@[simp] theorem forceAll_nil (S : SS) : forceAll [] S = some ([], S) := (rfl)
@[simp] theorem forceAll_cons (o : Ov) (os : List Ov) (S : SS) : forceAll (o :: os) S = match force o S with | some (d, S1) => (match forceAll os S1 with | some (ds, S2) => some (d :: ds, S2) | none => none) | none => none := (rfl)
@[simp] theorem dispF_ap (mk : List D → M) (os : List Ov) (S : SS) : dispF mk os S = match forceAll os S with | some (ds, S') => if ds.length ≤ 16777216 then .ok (mk ds) S' else .no | none => .no := (rfl)
@[simp] theorem mTup_ap (f : FA) (S : SS) : mTup f S = (f S).bind (dispF fun ds => .d (.tup ds)) := (rfl)
@[simp] theorem mLst_ap (f : FA) (S : SS) : mLst f S = (f S).bind (dispF fun ds => .lst ds) := (rfl)
@[simp] theorem mNeg_ap (f : FE) (S : SS) : mNeg f S = (f S).bind fun o S => match o.get S with | some (.int i) => .ok (.d (.int (-i))) S | _ => .no := (rfl)
@[simp] theorem mChain_ap (g g' : D → D → Option M) (fa fb fc : FE) (S : SS) : mChain g g' fa fb fc S = (fa S).bind fun a S => (fb S).bind fun b S => (onD g a b S).bind fun m S => (asB m S).bind fun k S =>
  if k = true then (fc S).bind fun c S => onD g' b c S else .ok (.d (.bl false)) S := (rfl)
@[simp] theorem pNo_ap (S : SS) : pNo S = .ok none S := (rfl)
@[simp] theorem pIx_ap (f : FE) (S : SS) : pIx f S = (f S).bind fun o S => match o.get S with | some (.int i) => .ok (some i) S | _ => .no := (rfl)
@[simp] theorem mSl_ap (f : FE) (l h : FP) (S : SS) : mSl f l h S = (f S).bind fun o S => (l S).bind fun lo S => (h S).bind fun hi S => match o.get S with
  | some x => (match sliceD lo hi x with | some m => .ok m S | none => .no)
  | none => .no := (rfl)
@[simp] theorem getAll_nil (S : SS) : getAll [] S = some [] := (rfl)
@[simp] theorem getAll_cons (o : Ov) (os : List Ov) (S : SS) : getAll (o :: os) S = match o.get S with | some d => (match getAll os S with | some ds => some (d :: ds) | none => none) | none => none := (rfl)
@[simp] theorem mBlt_ap (g : List D → Option M) (fas : FA) (S : SS) : mBlt g fas S = (fas S).bind fun os S => match getAll os S with | some ds => (match g ds with | some m => .ok m S | none => .no) | none => .no := (rfl)
@[simp] theorem on1_ap (g : D → Option M) (x : D) : on1 g [x] = g x := (rfl)
@[simp] theorem on2_ap (g : D → D → Option M) (x y : D) : on2 g [x, y] = g x y := (rfl)
@[simp] theorem lend_nil (S : SS) : lend [] S = some ([], S) := (rfl)
@[simp] theorem lend_d (x : D) (os : List Ov) (S : SS) : lend (.d x :: os) S = match lend os S with | some (ms, S') => some (.d x :: ms, S') | none => none := (rfl)
@[simp] theorem lend_j (i : Nat) (os : List Ov) (S : SS) : lend (.j i :: os) S = match S.at i with
    | some m => (match lend os (if m.own then S.set i none else S) with | some (ms, S') => some (m :: ms, S') | none => none)
    | none => none := (rfl)
@[simp] theorem back_nil (ms : List M) (fs : List (Option M)) (S : SS) : back [] ms fs S = S := by unfold back; rfl
@[simp] theorem back_d (x : D) (os : List Ov) (m : M) (ms : List M) (f : Option M) (fs : List (Option M)) (S : SS) : back (.d x :: os) (m :: ms) (f :: fs) S = back os ms fs S := (rfl)
@[simp] theorem back_j (i : Nat) (os : List Ov) (m : M) (ms : List M) (f : Option M) (fs : List (Option M)) (S : SS) : back (.j i :: os) (m :: ms) (f :: fs) S = back os ms fs (if m.own then S.set i f else S) := (rfl)
@[simp] theorem sNil_ap (S : SS) : sNil S = .ok .nx S := (rfl)
@[simp] theorem sSeq_ap (f g : FS) (S : SS) : sSeq f g S = (f S).bind fun fl S => match fl with | .nx => g S | .rt m => .ok (.rt m) S | .bk => .ok .bk S | .ct => .ok .ct S := (rfl)
@[simp] theorem sExpr_ap (f : FM) (S : SS) : sExpr f S = (f S).bind fun _ S => .ok .nx S := (rfl)
@[simp] theorem sRet_ap (f : FM) (S : SS) : sRet f S = (f S).bind fun m S => .ok (.rt m) S := (rfl)
@[simp] theorem sRetV_ap (i : Nat) (S : SS) : sRetV i S = match S.at i with | some m => .ok (.rt m) (S.set i none) | none => .no := (rfl)
@[simp] theorem sIf_ap (t : FB) (f g : FS) (S : SS) : sIf t f g S = (t S).bind fun c S => if c = true then f S else g S := (rfl)
@[simp] theorem sSet_ap (i : Nat) (f : FM) (S : SS) : sSet i f S = (f S).bind fun m S => .ok .nx (S.set i (some m)) := (rfl)
@[simp] theorem gN_ap (i : Nat) (d : D) (S : SS) : gN i d S = some (S.set i (some (.d d))) := (rfl)
@[simp] theorem gsNil_ap (S : SS) : gsNil [] S = some S := (rfl)
@[simp] theorem gsCons_ap (g : FG) (gs : FGs) (d : D) (ds : List D) (S : SS) : gsCons g gs (d :: ds) S = match g d S with | some S1 => gs ds S1 | none => none := (rfl)
@[simp] theorem gT_ap (n : Nat) (gs : FGs) (ds : List D) (S : SS) : gT n gs (.tup ds) S = if ds.length = n then gs ds S else none := (rfl)
@[simp] theorem sAsg_ap (f : FE) (g : FG) (S : SS) : sAsg f g S = (f S).bind fun o S => match force o S with
  | some (d, S1) => (match g d S1 with | some S2 => .ok .nx S2 | none => .no)
  | none => .no := (rfl)
@[simp] theorem iSeq_ap (f : FE) (S : SS) : iSeq f S = (f S).bind fun o S => match force o S with
  | some (.lst ds, S1) => .ok ds S1
  | some (.tup ds, S1) => .ok ds S1
  | some (.str x, S1) => .ok (strSeq x) S1
  | _ => .no := (rfl)
@[simp] theorem sNo_ap (S : SS) : sNo S = .no := (rfl)
@[simp] theorem iRng1_ap (f : FE) (S : SS) : iRng1 f S = (f S).bind fun o S => match o.get S with
  | some (.int j) => if -4611686018427387904 ≤ j ∧ j < 4611686018427387904 then .ok (rangeD 0 j.toNat) S else .no
  | _ => .no := (rfl)
@[simp] theorem forL_nil (g : FG) (b : FS) (S : SS) : forL g b [] S = .ok .nx S := (rfl)
theorem forL_cons (g : FG) (b : FS) (d : D) (ds : List D) (S : SS) : forL g b (d :: ds) S = match g d S with
    | none => .no
    | some S1 => (b S1).bind fun fl S2 => match fl with
      | .nx => forL g b ds S2
      | .ct => forL g b ds S2
      | .bk => .ok .nx S2
      | .rt m => .ok (.rt m) S2 := (rfl)
@[simp] theorem sFor_ap (i : FI) (g : FG) (b : FS) (S : SS) : sFor i g b S = (i S).bind fun ds S => forL g b ds S := (rfl)
@[simp] theorem isLq_ap (j : Nat) (S : SS) : isLq j S = if isL (S.at j) = true then .ok () S else .no := (rfl)
@[simp] theorem mApp_ap (j : Nat) (f : FE) (S : SS) : mApp j f S = (isLq j S).bind fun _ S => (f S).bind fun o S => match force o S with
  | some (x, S1) => (match S1.at j with
    | some (.lst xs) => if xs.length < 16777216 then .ok (.d .non) (S1.set j (some (.lst (xs ++ [x])))) else .no
    | _ => .no)
  | none => .no := (rfl)
@[simp] theorem mPop_ap (j : Nat) (S : SS) : mPop j S = match S.at j with
  | some (.lst xs) => (match xs.getLast? with
    | some x => .ok (.d x) (S.set j (some (.lst xs.dropLast)))
    | none => .no)
  | _ => .no := (rfl)
@[simp] theorem putIx_ap (j : Nat) (k : D) (x : D) (S : SS) : putIx j k x S = match k, S.at j with
  | .int k, some (.lst xs) => (match ixN xs.length k with
    | some n => some (S.set j (some (.lst (xs.set n x))))
    | none => none)
  | _, _ => none := (rfl)
@[simp] theorem sSetIx_ap (j : Nat) (f fi : FE) (S : SS) : sSetIx j f fi S = (f S).bind fun o S => match force o S with
  | some (x, S1) => (isLq j S1).bind fun _ S1 => (fi S1).bind fun i S2 => (match i.get S2 with
    | some k => (match putIx j k x S2 with
      | some S3 => .ok .nx S3
      | none => .no)
    | none => .no)
  | none => .no := (rfl)
@[simp] theorem sAug_ap (i : Nat) (g : D → D → Option M) (f : FE) (S : SS) : sAug i g f S = match S.at i with
  | some (.d x) => (f S).bind fun o S => (match o.get S with
    | some y => (match g x y with
      | some (.d z) => .ok .nx (S.set i (some (.d z)))
      | _ => .no)
    | none => .no)
  | _ => .no := (rfl)
@[simp] theorem sAugIx_ap (j : Nat) (g : D → D → Option M) (fi f : FE) (S : SS) : sAugIx j g fi f S = (isLq j S).bind fun _ S => (fi S).bind fun oi S => match oi.get S, S.at j with
  | some (.int k), some (.lst xs) => (match atI xs k with
    | some old => (f S).bind fun o S => (match o.get S with
      | some y => (match g old y with
        | some (.d z) => (match putIx j (.int k) z S with
          | some S3 => .ok .nx S3
          | none => .no)
        | _ => .no)
      | none => .no)
    | none => .no)
  | _, _ => .no := (rfl)
@[simp] theorem addD_ii (i j : Int) : addD (.int i) (.int j) = some (.d (.int (i + j))) := (rfl)
@[simp] theorem addD_ss (x y : Str) : addD (.str x) (.str y) = if x.length + y.length ≤ 16777216 then some (.d (.str (x ++ y))) else none := (rfl)
@[simp] theorem addD_ll (x y : List D) : addD (.lst x) (.lst y) = if x.length + y.length ≤ 16777216 then some (.lst (x ++ y)) else none := (rfl)
@[simp] theorem addD_tt (x y : List D) : addD (.tup x) (.tup y) = if x.length + y.length ≤ 16777216 then some (.d (.tup (x ++ y))) else none := (rfl)
@[simp] theorem iaddD_ii (i j : Int) : iaddD (.int i) (.int j) = some (.d (.int (i + j))) := (rfl)
@[simp] theorem subD_ii (i j : Int) : subD (.int i) (.int j) = some (.d (.int (i - j))) := (rfl)
@[simp] theorem mulD_ii (i j : Int) : mulD (.int i) (.int j) = if mulOk i j = true then some (.d (.int (i * j))) else none := (rfl)
@[simp] theorem fdivD_ii (i j : Int) : fdivD (.int i) (.int j) = if divOk j = true then some (.d (.int (i.fdiv j))) else none := (rfl)
@[simp] theorem modD_ii (i j : Int) : modD (.int i) (.int j) = if j ≠ 0 then some (.d (.int (i.fmod j))) else none := (rfl)
@[simp] theorem powD_ii (i j : Int) : powD (.int i) (.int j) = if 0 ≤ j ∧ j ≤ 1000000 ∧ i.natAbs < 2 ^ 64 then some (.d (.int (i ^ j.toNat))) else none := (rfl)
@[simp] theorem ltD_ii (i j : Int) : ltD (.int i) (.int j) = some (.d (.bl (decide (i < j)))) := (rfl)
@[simp] theorem leD_ii (i j : Int) : leD (.int i) (.int j) = some (.d (.bl (decide (i ≤ j)))) := (rfl)
@[simp] theorem gtD_ii (i j : Int) : gtD (.int i) (.int j) = some (.d (.bl (decide (j < i)))) := (rfl)
@[simp] theorem geD_ii (i j : Int) : geD (.int i) (.int j) = some (.d (.bl (decide (j ≤ i)))) := (rfl)
@[simp] theorem eqD_ii (i j : Int) : eqD (.int i) (.int j) = some (.d (.bl (i == j))) := (rfl)
@[simp] theorem eqD_ss (i j : Str) : eqD (.str i) (.str j) = some (.d (.bl (i == j))) := (rfl)
@[simp] theorem eqD_bb (i j : Bool) : eqD (.bl i) (.bl j) = some (.d (.bl (i == j))) := (rfl)
@[simp] theorem neD_ii (i j : Int) : neD (.int i) (.int j) = some (.d (.bl (!(i == j)))) := (rfl)
@[simp] theorem neD_ss (i j : Str) : neD (.str i) (.str j) = some (.d (.bl (!(i == j)))) := (rfl)
@[simp] theorem ixD_l (xs : List D) (i : Int) : ixD (.lst xs) (.int i) = (atI xs i).map .d := (rfl)
@[simp] theorem ixD_t (xs : List D) (i : Int) : ixD (.tup xs) (.int i) = (atI xs i).map .d := (rfl)
@[simp] theorem lenD_l (xs : List D) : lenD (.lst xs) = some (.d (.int xs.length)) := (rfl)
@[simp] theorem lenD_t (xs : List D) : lenD (.tup xs) = some (.d (.int xs.length)) := (rfl)
@[simp] theorem lenD_c (xs : List D) : lenD (.scr xs) = some (.d (.int xs.length)) := (rfl)
theorem atI_nn {α : Type} (xs : List α) (i : Nat) : atI xs (i : Int) = xs[i]? := by
  unfold atI ixN
  rw [if_pos (by omega)]
  by_cases h : i < xs.length
  · rw [if_pos (by omega)]; simp
  · rw [if_neg (by omega)]; simp; omega
@[simp] theorem atI_2 {α : Type} (xs : List α) : atI xs (2 : Int) = xs[(2 : Nat)]? := atI_nn xs 2
@[simp] theorem atI_3 {α : Type} (xs : List α) : atI xs (3 : Int) = xs[(3 : Nat)]? := atI_nn xs 3
@[simp] theorem atI_4 {α : Type} (xs : List α) : atI xs (4 : Int) = xs[(4 : Nat)]? := atI_nn xs 4
@[simp] theorem atI_5 {α : Type} (xs : List α) : atI xs (5 : Int) = xs[(5 : Nat)]? := atI_nn xs 5
@[simp] theorem atI_6 {α : Type} (xs : List α) : atI xs (6 : Int) = xs[(6 : Nat)]? := atI_nn xs 6
@[simp] theorem atI_7 {α : Type} (xs : List α) : atI xs (7 : Int) = xs[(7 : Nat)]? := atI_nn xs 7
@[simp] theorem atI_8 {α : Type} (xs : List α) : atI xs (8 : Int) = xs[(8 : Nat)]? := atI_nn xs 8
@[simp] theorem atI_m1 {α : Type} (xs : List α) : atI xs (-1 : Int) = xs.getLast? := by
  unfold atI ixN
  cases xs with
  | nil => rfl
  | cons x xs =>
    rw [if_neg (by omega), if_pos (by simp; omega), List.getLast?_eq_getElem?]
    show (x :: xs)[((-1 : Int) + ((x :: xs).length : Int)).toNat]? = _
    congr 1
    simp
    omega
@[simp] theorem atI_zero {α : Type} (xs : List α) : atI xs (0 : Int) = xs[(0 : Nat)]? := atI_nn xs 0
@[simp] theorem atI_one {α : Type} (xs : List α) : atI xs (1 : Int) = xs[(1 : Nat)]? := atI_nn xs 1
theorem ixN_nn (n : Nat) (i : Nat) : ixN n (i : Int) = if i < n then some i else none := by
  unfold ixN
  rw [if_pos (by omega)]
  by_cases h : i < n
  · rw [if_pos (by omega), if_pos h]; simp
  · rw [if_neg (by omega), if_neg h]
@[simp] theorem ixN_2 (n : Nat) : ixN n (2 : Int) = if 2 < n then some 2 else none := ixN_nn n 2
@[simp] theorem ixN_3 (n : Nat) : ixN n (3 : Int) = if 3 < n then some 3 else none := ixN_nn n 3
@[simp] theorem ixN_4 (n : Nat) : ixN n (4 : Int) = if 4 < n then some 4 else none := ixN_nn n 4
@[simp] theorem ixN_5 (n : Nat) : ixN n (5 : Int) = if 5 < n then some 5 else none := ixN_nn n 5
@[simp] theorem ixN_6 (n : Nat) : ixN n (6 : Int) = if 6 < n then some 6 else none := ixN_nn n 6
@[simp] theorem ixN_7 (n : Nat) : ixN n (7 : Int) = if 7 < n then some 7 else none := ixN_nn n 7
@[simp] theorem ixN_8 (n : Nat) : ixN n (8 : Int) = if 8 < n then some 8 else none := ixN_nn n 8
@[simp] theorem ixN_zero (n : Nat) : ixN n (0 : Int) = if 0 < n then some 0 else none := ixN_nn n 0
@[simp] theorem ixN_one (n : Nat) : ixN n (1 : Int) = if 1 < n then some 1 else none := ixN_nn n 1
@[simp] theorem finOf_zero (kp : Nat → Bool) (S : SS) (i : Nat) : finOf kp S i 0 = [] := (rfl)
@[simp] theorem finOf_succ (kp : Nat → Bool) (S : SS) (i n : Nat) : finOf kp S i (n + 1) = (if kp i then S.at i else none) :: finOf kp S (i + 1) n := (rfl)
@[simp] theorem kpl_zero (b : Bool) (l : List Bool) : kpl (b :: l) 0 = b := (rfl)
@[simp] theorem kpl_succ (b : Bool) (l : List Bool) (i : Nat) : kpl (b :: l) (i + 1) = kpl l i := (rfl)
@[simp] theorem run_ap (np nl : Nat) (kp : Nat → Bool) (body : FS) (ms : List M) : runFn np nl kp body ms = if ms.length = np then (match body (ms.map some ++ List.replicate (nl - np) none) with
  | .ok (.rt m) S => .ok m (finOf kp S 0 np)
  | .ok .nx S => .ok (.d .non) (finOf kp S 0 np)
  | .ex x S => .ex x (finOf kp S 0 np)
  | _ => .no) else .no := (rfl)
theorem mulOk_r {i j : Int} (h : -18446744073709551616 < j ∧ j < 18446744073709551616) : mulOk i j = true := by unfold mulOk; simp; omega
theorem mulOk_l {i j : Int} (h : -18446744073709551616 < i ∧ i < 18446744073709551616) : mulOk i j = true := by unfold mulOk; simp; omega
theorem mulOk_modl {x j k : Int} (h : 0 < k ∧ k < 18446744073709551616) : mulOk (x % k) j = true := mulOk_l (by have := Int.emod_nonneg x (show k ≠ 0 by omega); have := Int.emod_lt_of_pos x h.1; omega)
theorem divOk_of {j : Int} (h0 : 0 < j) (h : j < 340282366920938463463374607431768211456) : divOk j = true := by unfold divOk; simp; omega
/-! ### comprehensions -/
theorem lcL_map {own : List Nat} {g : FG} {t : FB} {fe : FE} (p : D → Bool) (f : D → D) (S0 : SS) : ∀ (ds : List D) (S : SS) (acc : List D), wipeS S own = S0 →
    (∀ d ∈ ds, ∃ S1 S2, g d S0 = some S1 ∧ t S1 = .ok (p d) S2 ∧ (p d = false → wipeS S2 own = S0) ∧ (p d = true → ∃ o S3 S4, fe S2 = .ok o S3 ∧ force o S3 = some (f d, S4) ∧ wipeS S4 own = S0)) →
    acc.length + ds.length ≤ line → ∃ S', lcL own g t fe ds S acc = .ok (acc ++ (ds.filter p).map f) S' ∧ wipeS S' own = S0
  | [], S, acc, hS, _, _ => ⟨S, by simp [lcL], hS⟩
  | d :: ds, S, acc, hS, h, hl => by
    obtain ⟨S1, S2, h1, h2, h3, h4⟩ := h d (List.mem_cons_self ..)
    have hr := fun x hx => h x (List.mem_cons_of_mem _ hx)
    simp only [List.length_cons] at hl
    show ∃ S', (match g d (wipeS S own) with
      | none => R.no
      | some S1 => (t S1).bind fun b S2 => if b = true then (fe S2).bind fun o S3 => (match force o S3 with
          | some (x, S4) => if acc.length < line then lcL own g t fe ds S4 (acc ++ [x]) else .no
          | none => .no) else lcL own g t fe ds S2 acc) = _ ∧ wipeS S' own = S0
    rw [hS, h1]
    dsimp only
    rw [h2, bind_ok]
    cases hp : p d with
    | false =>
      rw [if_neg (by decide), List.filter_cons_of_neg (by rw [hp]; decide)]
      exact lcL_map p f S0 ds S2 acc (h3 hp) hr (by omega)
    | true =>
      obtain ⟨o, S3, S4, h5, h6, h7⟩ := h4 hp
      rw [if_pos rfl, h5, bind_ok, h6]
      dsimp only
      rw [if_pos (by omega), List.filter_cons_of_pos hp, List.map_cons]
      obtain ⟨S', e1, e2⟩ := lcL_map p f S0 ds S4 (acc ++ [f d]) h7 hr (by simp; omega)
      exact ⟨S', by rw [e1]; simp, e2⟩
theorem restS_wipe (S1 S2 : SS) : ∀ vs : List Nat, restS S1 (wipeS S2 vs) vs = restS S1 S2 vs := by
  intro vs
  have key : ∀ (vs : List Nat) (S S' : SS), S.length = S'.length → (∀ j, j ∉ vs → S[j]? = S'[j]?) → restS S1 S vs = restS S1 S' vs := by
    intro vs
    induction vs with
    | nil =>
      intro S S' _ h
      exact List.ext_getElem? fun j => h j (by simp)
    | cons v vs ih =>
      intro S S' hl h
      show (restS S1 S vs).set v _ = (restS S1 S' vs).set v _
      have e1 : ∀ (T : SS), (restS S1 T vs).set v (keepD (S1.at v)) = (restS S1 (T.set v none) vs).set v (keepD (S1.at v)) := by
        intro T
        apply List.ext_getElem?
        intro j
        by_cases hj : v = j
        · subst hj
          by_cases hlt : v < T.length
          · rw [List.getElem?_set_self (by rw [restS_len]; exact hlt), List.getElem?_set_self (by rw [restS_len, List.length_set]; exact hlt)]
          · rw [List.getElem?_eq_none (by rw [List.length_set, restS_len]; omega), List.getElem?_eq_none (by rw [List.length_set, restS_len, List.length_set]; omega)]
        · rw [List.getElem?_set_ne hj, List.getElem?_set_ne hj]
          have : ∀ (vs : List Nat) (T T' : SS), T.length = T'.length → T[j]? = T'[j]? → (restS S1 T vs)[j]? = (restS S1 T' vs)[j]? := by
            intro vs
            induction vs with
            | nil => intro T T' _ h; exact h
            | cons u vs ih2 =>
              intro T T' hl h
              show ((restS S1 T vs).set u _)[j]? = ((restS S1 T' vs).set u _)[j]?
              by_cases hu : u = j
              · subst hu
                by_cases hlt : u < T.length
                · rw [List.getElem?_set_self (by rw [restS_len]; exact hlt), List.getElem?_set_self (by rw [restS_len]; omega)]
                · rw [List.getElem?_eq_none (by rw [List.length_set, restS_len]; omega), List.getElem?_eq_none (by rw [List.length_set, restS_len]; omega)]
              · rw [List.getElem?_set_ne hu, List.getElem?_set_ne hu]
                exact ih2 T T' hl h
          exact this vs _ _ (by simp) (by rw [List.getElem?_set_ne hj])
      rw [e1 S, e1 S', ih (S.set v none) (S'.set v none) (by simp [hl]) (fun j hj => by
        by_cases hv : v = j
        · subst hv
          by_cases hlt : v < S.length
          · rw [List.getElem?_set_self hlt, List.getElem?_set_self (by omega)]
          · rw [List.getElem?_eq_none (by simp; omega), List.getElem?_eq_none (by simp; omega)]
        · rw [List.getElem?_set_ne hv, List.getElem?_set_ne hv]
          exact h j (by simp only [List.mem_cons, not_or]; exact ⟨fun e => hv e.symm, hj⟩))]
  refine key vs _ _ (wipeS_len _ _) fun j hj => ?_
  have : ∀ vs : List Nat, j ∉ vs → (wipeS S2 vs)[j]? = S2[j]? := by
    intro vs
    induction vs with
    | nil => intro _; rfl
    | cons v vs ih =>
      intro hj
      simp only [List.mem_cons, not_or] at hj
      show ((wipeS S2 vs).set v none)[j]? = _
      rw [List.getElem?_set_ne (fun e => hj.1 e.symm), ih hj.2]
  exact this vs hj
/-- a comprehension that leaves all else as it is -/
theorem mLc_map {own : List Nat} {fi : FI} {g : FG} {t : FB} {fe : FE} {S S1 : SS} {ds : List D} (p : D → Bool) (f : D → D) (h : fi S = .ok ds S1)
    (ht : ∀ d ∈ ds, ∃ S2 S3, g d (wipeS S1 own) = some S2 ∧ t S2 = .ok (p d) S3 ∧ (p d = false → wipeS S3 own = wipeS S1 own) ∧ (p d = true → ∃ o S4 S5, fe S3 = .ok o S4 ∧ force o S4 = some (f d, S5) ∧ wipeS S5 own = wipeS S1 own))
    (hl : ds.length ≤ line) : mLc own fi g t fe S = .ok (.lst ((ds.filter p).map f)) (restS S1 S1 own) := by
  unfold mLc
  rw [h, bind_ok]
  obtain ⟨S', e1, e2⟩ := lcL_map p f (wipeS S1 own) ds S1 [] rfl ht (by simpa using hl)
  rw [e1, bind_ok, List.nil_append]
  rw [← restS_wipe S1 S', e2, restS_wipe]

/-! ### numbers -/
theorem fmod_pos {a b : Int} (h : 0 < b) : a.fmod b = a % b := Int.fmod_eq_emod_of_nonneg a (by omega)
theorem fdiv_pos {a b : Int} (h : 0 < b) : a.fdiv b = a / b := Int.fdiv_eq_ediv_of_nonneg a (by omega)
theorem atI_ok {α : Type} {xs : List α} {i : Int} {x : α} (h0 : 0 ≤ i) (h : xs[i.toNat]? = some x) : atI xs i = some x := by
  have hl := (List.getElem?_eq_some_iff.mp h).1
  unfold atI ixN
  rw [if_pos h0, if_pos (by omega)]
  exact h

@[simp] theorem isi_ty (x : D) (n : String) : isiD x (.ty n) = if x.knd ≠ "" ∧ (n = "int" ∨ n = "bool" ∨ n = "str" ∨ n = "tuple" ∨ n = "list" ∨ n = "dict") then some (.d (.bl (isiK x.knd n))) else none := (rfl)
@[simp] theorem knd_int (i : Int) : D.knd (.int i) = "int" := (rfl)
@[simp] theorem knd_bl (i : Bool) : D.knd (.bl i) = "bool" := (rfl)
@[simp] theorem knd_str (i : Str) : D.knd (.str i) = "str" := (rfl)
@[simp] theorem knd_tup (i : List D) : D.knd (.tup i) = "tuple" := (rfl)
@[simp] theorem knd_lst (i : List D) : D.knd (.lst i) = "list" := (rfl)
@[simp] theorem eqD_ap (a b : D) : eqD a b = if eqOk a b = true then some (.d (.bl (D.eqb a b))) else none := (rfl)
@[simp] theorem neD_ap (a b : D) : neD a b = if eqOk a b = true then some (.d (.bl (!D.eqb a b))) else neD2 a b := (rfl)
@[simp] theorem neD2_c (x : D) (xs : List D) : neD2 (.lst (x :: xs)) (.lst []) = some (.d (.bl true)) := (rfl)
@[simp] theorem eqOk_ap (a b : D) : eqOk a b = (a.pl && b.pl && decide (min a.dep b.dep ≤ 190)) := (rfl)
@[simp] theorem pl_non : D.pl .non = true := (rfl)
@[simp] theorem pl_bl (b : Bool) : D.pl (.bl b) = true := (rfl)
@[simp] theorem pl_int (b : Int) : D.pl (.int b) = true := (rfl)
@[simp] theorem pl_str (b : Str) : D.pl (.str b) = true := (rfl)
@[simp] theorem pl_tup (b : List D) : D.pl (.tup b) = D.pls b := (rfl)
@[simp] theorem pl_lst (b : List D) : D.pl (.lst b) = D.pls b := (rfl)
@[simp] theorem pls_nil : D.pls [] = true := (rfl)
@[simp] theorem pls_cons (x : D) (xs : List D) : D.pls (x :: xs) = (D.pl x && D.pls xs) := (rfl)
@[simp] theorem dep_non : D.dep .non = 0 := (rfl)
@[simp] theorem dep_bl (b : Bool) : D.dep (.bl b) = 0 := (rfl)
@[simp] theorem dep_int (b : Int) : D.dep (.int b) = 0 := (rfl)
@[simp] theorem dep_str (b : Str) : D.dep (.str b) = 0 := (rfl)
@[simp] theorem dep_tup (b : List D) : D.dep (.tup b) = D.deps b + 1 := (rfl)
@[simp] theorem dep_lst (b : List D) : D.dep (.lst b) = D.deps b + 1 := (rfl)
@[simp] theorem deps_nil : D.deps [] = 0 := (rfl)
@[simp] theorem deps_cons (x : D) (xs : List D) : D.deps (x :: xs) = max (D.dep x) (D.deps xs) := (rfl)
@[simp] theorem eqb_ii (i j : Int) : D.eqb (.int i) (.int j) = (i == j) := (rfl)
@[simp] theorem eqb_ib (i : Int) (j : Bool) : D.eqb (.int i) (.bl j) = (i == (if j then 1 else 0)) := (rfl)
@[simp] theorem eqb_bi (i : Bool) (j : Int) : D.eqb (.bl i) (.int j) = ((if i then 1 else 0) == j) := (rfl)
@[simp] theorem eqb_bb (i j : Bool) : D.eqb (.bl i) (.bl j) = (i == j) := (rfl)
@[simp] theorem eqb_ss (i j : Str) : D.eqb (.str i) (.str j) = (i == j) := (rfl)
@[simp] theorem eqb_si (i : Str) (j : Int) : D.eqb (.str i) (.int j) = false := (rfl)
@[simp] theorem eqb_sb (i : Str) (j : Bool) : D.eqb (.str i) (.bl j) = false := (rfl)
@[simp] theorem eqb_is (i : Int) (j : Str) : D.eqb (.int i) (.str j) = false := (rfl)
@[simp] theorem eqb_tt (i j : List D) : D.eqb (.tup i) (.tup j) = D.eqbs i j := (rfl)
@[simp] theorem eqb_ll (i j : List D) : D.eqb (.lst i) (.lst j) = D.eqbs i j := (rfl)
@[simp] theorem eqb_tl (i j : List D) : D.eqb (.tup i) (.lst j) = false := (rfl)
@[simp] theorem eqb_lt (i j : List D) : D.eqb (.lst i) (.tup j) = false := (rfl)
@[simp] theorem eqb_ti (i : List D) (j : Int) : D.eqb (.tup i) (.int j) = false := (rfl)
@[simp] theorem eqb_it (i : List D) (j : Int) : D.eqb (.int j) (.tup i) = false := (rfl)
@[simp] theorem eqb_ts (i : List D) (j : Str) : D.eqb (.tup i) (.str j) = false := (rfl)
@[simp] theorem eqb_st (i : List D) (j : Str) : D.eqb (.str j) (.tup i) = false := (rfl)
@[simp] theorem eqb_nn : D.eqb .non .non = true := (rfl)
@[simp] theorem eqb_ni (j : Int) : D.eqb .non (.int j) = false := (rfl)
@[simp] theorem eqb_ns (j : Str) : D.eqb .non (.str j) = false := (rfl)
@[simp] theorem eqb_nt (j : List D) : D.eqb .non (.tup j) = false := (rfl)
@[simp] theorem eqb_in (j : Int) : D.eqb (.int j) .non = false := (rfl)
@[simp] theorem eqb_sn (j : Str) : D.eqb (.str j) .non = false := (rfl)
@[simp] theorem eqb_tn (j : List D) : D.eqb (.tup j) .non = false := (rfl)
@[simp] theorem eqbs_nn : D.eqbs [] [] = true := (rfl)
@[simp] theorem eqbs_nc (x : D) (xs : List D) : D.eqbs [] (x :: xs) = false := (rfl)
@[simp] theorem eqbs_cn (x : D) (xs : List D) : D.eqbs (x :: xs) [] = false := (rfl)
@[simp] theorem eqbs_cc (x y : D) (xs ys : List D) : D.eqbs (x :: xs) (y :: ys) = (D.eqb x y && D.eqbs xs ys) := (rfl)

/-! ### what a reckoning comes to -/
noncomputable def R.wp0 {α : Type} (r : R α) (Q : α → SS → Prop) : Prop := match r with
  | .ok a S => Q a S
  | _ => False
noncomputable def CR.wp0 (r : CR) (Q : M → List (Option M) → Prop) : Prop := match r with
  | .ok a S => Q a S
  | _ => False
@[irreducible] noncomputable def R.wp {α : Type} (r : R α) (Q : α → SS → Prop) (_ : Ph Q := ⟨⟩) : Prop := R.wp0 r Q
@[irreducible] noncomputable def CR.wp (r : CR) (Q : M → List (Option M) → Prop) (_ : Ph Q := ⟨⟩) : Prop := CR.wp0 r Q
theorem R.wp_eq {α : Type} (r : R α) (Q : α → SS → Prop) (p : Ph Q) : R.wp r Q p = R.wp0 r Q := by unfold R.wp; rfl
theorem CR.wp_eq (r : CR) (Q : M → List (Option M) → Prop) (p : Ph Q) : CR.wp r Q p = CR.wp0 r Q := by unfold CR.wp; rfl
@[simp] theorem wp_ok {α : Type} (a : α) (S : SS) (Q : α → SS → Prop) : R.wp (.ok a S) Q = Q a S := by rw [R.wp_eq]; rfl
@[simp] theorem wp_no {α : Type} (Q : α → SS → Prop) : R.wp .no Q = False := by rw [R.wp_eq]; rfl
@[simp] theorem wp_ex {α : Type} (x : Exn) (S : SS) (Q : α → SS → Prop) : R.wp (.ex x S) Q = False := by rw [R.wp_eq]; rfl
@[simp] theorem cwp_ok (a : M) (S : List (Option M)) (Q : M → List (Option M) → Prop) : CR.wp (.ok a S) Q = Q a S := by rw [CR.wp_eq]; rfl
@[simp] theorem cwp_no (Q : M → List (Option M) → Prop) : CR.wp .no Q = False := by rw [CR.wp_eq]; rfl
@[simp] theorem cwp_ex (x : Exn) (S : List (Option M)) (Q : M → List (Option M) → Prop) : CR.wp (.ex x S) Q = False := by rw [CR.wp_eq]; rfl
@[simp] theorem wp_bind {α β : Type} (r : R α) (f : α → SS → R β) (Q : β → SS → Prop) : R.wp (r.bind f) Q = R.wp r (fun a S => R.wp (f a S) Q) := by
  cases r with
  | ok a S => rw [bind_ok, wp_ok]
  | ex _ _ => rw [bind_ex, wp_ex, wp_ex]
  | no => rw [bind_no, wp_no, wp_no]
theorem R.wp_mono {α : Type} {r : R α} {Q Q' : α → SS → Prop} (h : r.wp Q) (k : ∀ a S, Q a S → Q' a S) : r.wp Q' := by
  rw [R.wp_eq] at h ⊢
  cases r with
  | ok a S => exact k _ _ h
  | ex _ _ => exact h
  | no => exact h
theorem CR.wp_mono {r : CR} {Q Q' : M → List (Option M) → Prop} (h : r.wp Q) (k : ∀ a S, Q a S → Q' a S) : r.wp Q' := by
  rw [CR.wp_eq] at h ⊢
  cases r with
  | ok a S => exact k _ _ h
  | ex _ _ => exact h
  | no => exact h
theorem CR.wp_ok {r : CR} {Q : M → List (Option M) → Prop} (h : r.wp Q) : ∃ a S, r = .ok a S ∧ Q a S := by
  rw [CR.wp_eq] at h
  cases r with
  | ok a S => exact ⟨_, _, rfl, h⟩
  | ex _ _ => exact h.elim
  | no => exact h.elim
theorem R.wp_ok' {α : Type} {r : R α} {Q : α → SS → Prop} (h : r.wp Q) : ∃ a S, r = .ok a S ∧ Q a S := by
  rw [R.wp_eq] at h
  cases r with
  | ok a S => exact ⟨_, _, rfl, h⟩
  | ex _ _ => exact h.elim
  | no => exact h.elim
theorem CR.wp_of {r : CR} {Q : M → List (Option M) → Prop} {a : M} {S : List (Option M)} (e : r = .ok a S) (h : Q a S) : r.wp Q := by rw [e, cwp_ok]; exact h
theorem R.wp_of {α : Type} {r : R α} {Q : α → SS → Prop} {a : α} {S : SS} (e : r = .ok a S) (h : Q a S) : r.wp Q := by rw [e, Ev.wp_ok]; exact h
noncomputable def CR.toR (c : CR) (h : List (Option M) → SS) (_ : Ph h := ⟨⟩) : R M := match c with
  | .ok r fin => .ok r (h fin)
  | .ex x fin => .ex x (h fin)
  | .no => .no
@[simp] theorem toR_ok (a : M) (S : List (Option M)) (h : List (Option M) → SS) : CR.toR (.ok a S) h = .ok a (h S) := (rfl)
@[simp] theorem toR_no (h : List (Option M) → SS) : CR.toR .no h = .no := (rfl)
@[simp] theorem wp_toR (c : CR) (h : List (Option M) → SS) (Q : M → SS → Prop) : R.wp (c.toR h) Q = c.wp (fun r fin => Q r (h fin)) := by rw [R.wp_eq, CR.wp_eq]; cases c <;> rfl
@[simp] theorem bind_toR {β : Type} (c : CR) (h : List (Option M) → SS) (f : M → SS → R β) (Q : β → SS → Prop) : R.wp ((c.toR h).bind f) Q = c.wp (fun r fin => R.wp (f r (h fin)) Q) := by rw [wp_bind, wp_toR]
@[simp] theorem mCall_ap (g : List M → CR) (fas : FA) (S : SS) : mCall g fas S = (fas S).bind fun os S1 => match lend os S1 with
  | some (ms, S2) => (g ms).toR fun fin => back os ms fin S2
  | none => .no := (rfl)
/-- what a body's end is to its caller -/
noncomputable def endQ (np : Nat) (kp : Nat → Bool) (Q : M → List (Option M) → Prop) : Fl → SS → Prop := fun fl S => match fl with
  | .rt m => Q m (finOf kp S 0 np)
  | .nx => Q (.d .non) (finOf kp S 0 np)
  | _ => False
@[simp] theorem endQ_rt (np : Nat) (kp : Nat → Bool) (Q : M → List (Option M) → Prop) (m : M) (S : SS) : endQ np kp Q (.rt m) S = Q m (finOf kp S 0 np) := (rfl)
@[simp] theorem endQ_nx (np : Nat) (kp : Nat → Bool) (Q : M → List (Option M) → Prop) (S : SS) : endQ np kp Q .nx S = Q (.d .non) (finOf kp S 0 np) := (rfl)
theorem run_wp {np nl : Nat} {kp : Nat → Bool} {body : FS} {ms : List M} {Q : M → List (Option M) → Prop} (hl : ms.length = np) (h : (body (ms.map some ++ List.replicate (nl - np) none)).wp (endQ np kp Q)) : (runFn np nl kp body ms).wp Q := by
  rw [run_ap, if_pos hl]
  obtain ⟨fl, S, e, h⟩ := R.wp_ok' h
  rw [e]
  cases fl with
  | rt m => rw [CR.wp_eq]; exact h
  | nx => rw [CR.wp_eq]; exact h
  | bk => exact h.elim
  | ct => exact h.elim
/-- a walk, by what holds with what is left -/
theorem wp_forL {g : FG} {b : FS} {Q : Fl → SS → Prop} (I : List D → SS → Prop) (h0 : ∀ S, I [] S → Q .nx S)
    (h : ∀ d ds S, I (d :: ds) S → ∃ S1, g d S = some S1 ∧ (b S1).wp fun fl S2 => match fl with | .nx => I ds S2 | .ct => I ds S2 | .bk => Q .nx S2 | .rt m => Q (.rt m) S2) :
    ∀ (ds : List D) (S : SS), I ds S → (forL g b ds S).wp Q
  | [], S, hI => R.wp_of rfl (h0 S hI)
  | d :: ds, S, hI => by
    obtain ⟨S1, e1, h1⟩ := h d ds S hI
    rw [forL_cons, e1]
    dsimp only
    rw [wp_bind]
    refine R.wp_mono h1 fun fl S2 h2 => ?_
    cases fl with
    | nx => exact wp_forL I h0 h ds S2 h2
    | ct => exact wp_forL I h0 h ds S2 h2
    | bk => exact R.wp_of rfl h2
    | rt m => exact R.wp_of rfl h2
/-- a walk of which each round goes on -/
theorem wp_for1 {g : FG} {b : FS} {Q : Fl → SS → Prop} (P : D → Prop) (I : SS → Prop) {ds : List D} {S : SS} (hP : ∀ d ∈ ds, P d) (hI : I S)
    (h : ∀ d S, P d → I S → ∃ S1, g d S = some S1 ∧ (b S1).wp fun fl S2 => match fl with | .nx => I S2 | .ct => I S2 | .bk => Q .nx S2 | .rt m => Q (.rt m) S2) (h0 : ∀ S, I S → Q .nx S) : (forL g b ds S).wp Q :=
  wp_forL (fun ds S => (∀ d ∈ ds, P d) ∧ I S) (fun S hS => h0 S hS.2) (fun d ds S hS => by
    obtain ⟨S1, e1, h1⟩ := h d S (hS.1 d (List.mem_cons_self ..)) hS.2
    refine ⟨S1, e1, R.wp_mono h1 fun fl S2 h2 => ?_⟩
    cases fl with
    | nx => exact ⟨fun x hx => hS.1 x (List.mem_cons_of_mem _ hx), h2⟩
    | ct => exact ⟨fun x hx => hS.1 x (List.mem_cons_of_mem _ hx), h2⟩
    | bk => exact h2
    | rt m => exact h2) ds S ⟨hP, hI⟩
/-- a while, by what holds and a measure -/
theorem wp_while {c : FB} {b : FS} {Q : Fl → SS → Prop} (I : Nat → SS → Prop)
    (h : ∀ n S, I n S → (c S).wp fun k S1 => (k = true → (b S1).wp fun fl S2 => match fl with | .nx => ∃ m, m < n ∧ I m S2 | .ct => ∃ m, m < n ∧ I m S2 | .bk => Q .nx S2 | .rt m => Q (.rt m) S2) ∧ (k = false → Q .nx S1)) (n : Nat) : ∀ S, I n S → (sWhile c b S).wp Q := by
  induction n using Nat.strongRecOn with
  | ind n ih =>
    intro S hI
    rw [sWhile_eq, wp_bind]
    refine R.wp_mono (h n S hI) fun k S1 h1 => ?_
    cases k with
    | false => exact R.wp_of rfl (h1.2 rfl)
    | true =>
      rw [if_pos rfl, wp_bind]
      refine R.wp_mono (h1.1 rfl) fun fl S2 h2 => ?_
      cases fl with
      | nx => obtain ⟨m, hm, hI⟩ := h2; exact ih m hm S2 hI
      | ct => obtain ⟨m, hm, hI⟩ := h2; exact ih m hm S2 hI
      | bk => exact R.wp_of rfl h2
      | rt m => exact R.wp_of rfl h2
theorem rangeD_mem (n : Nat) (i : Int) (d : D) (h : d ∈ rangeD i n) : ∃ k : Int, d = .int k ∧ i ≤ k ∧ k < i + n := by
  unfold rangeD at h
  simp only [List.mem_map, List.mem_range] at h
  obtain ⟨k, hk, e⟩ := h
  exact ⟨_, e.symm, by omega, by omega⟩

noncomputable def b__law_bag (call : Str → List M → CR) : FS :=
  (sRet (mLst (aCons (eC (.int 0)) (aCons (eC (.int 1234567891)) (aCons (eC (.int 0)) (aCons (eM (mLc [1] (iSeq (eM (mSl (eN 0) pNo (pIx (eC (.int 63)))))) (gN 1) tTrue (eM (mBlt (on1 absD) (aCons (eN 1) aNil))))) aNil))))))
noncomputable def g__law_bag (call : Str → List M → CR) : List M → CR := runFn 1 2 (kpl [true]) (b__law_bag call)
noncomputable def b__law_take (call : Str → List M → CR) : FS :=
  (sSeq (sIf (tM (mBin eqD (eM (mBin ixD (eN 0) (eC (.int 0)))) (eC (.int 0))))
    (sSeq (sSet 4 (mE (eC (.int 0))))
  (sSeq (sIf (tM (mBin ltD (eM (mBin ixD (eN 0) (eC (.int 2)))) (eM (mBlt (on1 lenD) (aCons (eM (mBin ixD (eN 0) (eC (.int 3)))) aNil)))))
    (sSet 4 (mBin ixD (eM (mBin ixD (eN 0) (eC (.int 3)))) (eM (mBin ixD (eN 0) (eC (.int 2))))))
    sNil)
  (sSeq (sAugIx 0 iaddD (eC (.int 2)) (eC (.int 1)))
  (sSeq (sIf (tM (mBin geD (eN 4) (eC (.int 1000000000000000000))))
    (sSetIx 0 (eN 4) (eC (.int 0)))
    sNil)
  (sSetIx 0 (eM (mBin modD (eM (mBin addD (eM (mBin addD (eM (mBin mulD (eM (mBin ixD (eN 0) (eC (.int 1)))) (eC (.int 48271)))) (eM (mBin modD (eN 4) (eC (.int 2147483647)))))) (eM (mBin mulD (eC (.int 7919)) (eM (mBin ixD (eN 0) (eC (.int 2)))))))) (eC (.int 2147483647)))) (eC (.int 1)))))))
    sNil)
  (sSeq (sIf (tM (mBin gtD (eM (mBin ixD (eN 0) (eC (.int 0)))) (eC (.int 0))))
    (sSeq (sSet 5 (mBin modD (eM (mBin ixD (eN 0) (eC (.int 0)))) (eN 1)))
  (sSeq (sSetIx 0 (eM (mBin fdivD (eM (mBin ixD (eN 0) (eC (.int 0)))) (eN 1))) (eC (.int 0)))
  (sRetV 5)))
    sNil)
  (sSeq (sSet 2 (mBin modD (eM (mBin mulD (eM (mBin addD (eM (mBin ixD (eN 0) (eC (.int 1)))) (eC (.int 1)))) (eC (.int 39373)))) (eC (.int 1000000007))))
  (sSeq (sSet 3 (mBin modD (eM (mBin mulD (eM (mBin modD (eM (mBin mulD (eN 2) (eN 2))) (eC (.int 998244353)))) (eC (.int 30011)))) (eC (.int 998244353))))
  (sSeq (sIf (tM (mBin gtD (eN 1) (eC (.int 1000000))))
    (sRet (mBin modD (eM (mBin addD (eM (mBin mulD (eN 3) (eC (.int 1000000007)))) (eN 2))) (eN 1)))
    sNil)
  (sRet (mBin modD (eM (mBin fdivD (eN 3) (eC (.int 7)))) (eN 1))))))))
noncomputable def g__law_take (call : Str → List M → CR) : List M → CR := runFn 2 6 (kpl [true, true]) (b__law_take call)
/-- the drawer of a law's numbers -/
structure Bag where
  a : Int
  b : Int
  c : Int
  xs : List Int
structure Bag.Ok (g : Bag) : Prop where
  a0 : 0 ≤ g.a
  b0 : 0 ≤ g.b
  b1 : g.b < 2147483647
  c0 : 0 ≤ g.c
  xn : ∀ x ∈ g.xs, 0 ≤ x
noncomputable def Bag.enc (g : Bag) : M := .lst [.int g.a, .int g.b, .int g.c, .lst (g.xs.map .int)]
theorem bag_eq (call : Str → List M → CR) (ns : List Int) (hn : ns.length ≤ 63) : ∃ g : Bag, g.Ok ∧ g__law_bag call [.d (scrD ns)] = .ok g.enc [some (.d (scrD ns))] := by
  refine ⟨⟨0, 1234567891, 0, (ns.take 63).map fun i => if i < 0 then -i else i⟩, ⟨Int.le_refl 0, by show (0 : Int) ≤ 1234567891; decide, by show (1234567891 : Int) < 2147483647; decide, Int.le_refl 0, ?_⟩, ?_⟩
  · intro x hx
    simp only [List.mem_map] at hx
    obtain ⟨y, _, rfl⟩ := hx
    split <;> omega
  · have hcut : cutD (ns.map D.int) none (some 63) = (ns.take 63).map D.int := by
      unfold cutD HT.sIx
      simp
    have e1 : (iSeq (eM (mSl (eN 0) pNo (pIx (eC (.int 63)))))) [some (.d (scrD ns)), none] = .ok ((ns.take 63).map D.int) [some (.d (scrD ns)), none] := by
      simp [iSeq, eM, mSl, eN, pNo, pIx, eC, scrD, sliceD, hcut, force]
    have e2 := mLc_map (own := [1]) (g := gN 1) (t := tTrue) (fe := eM (mBlt (on1 absD) (aCons (eN 1) aNil))) (fun _ => true) (fun d => match d with | .int i => .int (if i < 0 then -i else i) | d => d) e1 (by
      intro d hd
      simp only [List.mem_map] at hd
      obtain ⟨i, _, rfl⟩ := hd
      exact ⟨_, _, rfl, rfl, (fun h => by cases h), (fun _ => ⟨_, _, _, rfl, rfl, rfl⟩)⟩) (by simp [line]; omega)
    have e3 : (fun d => match d with | D.int i => D.int (if i < 0 then -i else i) | d => d) ∘ D.int = D.int ∘ fun i => if i < 0 then -i else i := rfl
    rw [show (fun _ : D => true) = fun _ => true from rfl, List.filter_eq_self.mpr (fun _ _ => rfl), List.map_map, e3, ← List.map_map] at e2
    unfold g__law_bag b__law_bag
    simp -dsimp [List.replicate, e2, Bag.enc, restS, wipeS, keepD]
/-- a cell is drawn when the drawer is empty -/
noncomputable def Bag.cell (g : Bag) : Int := if g.c < g.xs.length then g.xs.getD g.c.toNat 0 else 0
noncomputable def Bag.fill (g : Bag) : Bag := if g.a = 0 then ⟨if 1000000000000000000 ≤ g.cell then g.cell else 0, (g.b * 48271 + g.cell % 2147483647 + 7919 * (g.c + 1)) % 2147483647, g.c + 1, g.xs⟩ else g
noncomputable def Bag.fst (g : Bag) : Int := (g.b + 1) * 39373 % 1000000007
noncomputable def Bag.snd (g : Bag) : Int := g.fst * g.fst % 998244353 * 30011 % 998244353
noncomputable def Bag.val (g : Bag) (m : Int) : Int := if 0 < g.a then g.a % m else if 1000000 < m then (g.snd * 1000000007 + g.fst) % m else g.snd / 7 % m
noncomputable def Bag.left (g : Bag) (m : Int) : Bag := if 0 < g.a then { g with a := g.a / m } else g
theorem Bag.fill_ok {g : Bag} (h : g.Ok) : g.fill.Ok := by
  obtain ⟨a, b, c, xs⟩ := g
  obtain ⟨ha, hb, hb1, hc, hx⟩ := h
  dsimp only at ha hb hb1 hc hx
  unfold Bag.fill
  split
  · refine ⟨?_, ?_, ?_, ?_, hx⟩
    · dsimp only; split <;> omega
    · dsimp only; omega
    · dsimp only; omega
    · dsimp only; omega
  · exact ⟨ha, hb, hb1, hc, hx⟩
theorem Bag.left_ok {g : Bag} {m : Int} (h : g.Ok) (hm : 0 < m) : (g.left m).Ok := by
  unfold Bag.left
  split
  · exact ⟨Int.ediv_nonneg h.a0 (by omega), h.b0, h.b1, h.c0, h.xn⟩
  · exact h
theorem Bag.val_rng {g : Bag} {m : Int} (hm : 0 < m) : 0 ≤ g.val m ∧ g.val m < m := by
  have k : ∀ x : Int, 0 ≤ x % m ∧ x % m < m := fun x => ⟨Int.emod_nonneg x (by omega), Int.emod_lt_of_pos x hm⟩
  unfold Bag.val
  split
  · exact k _
  · split <;> exact k _
theorem take_eq (call : Str → List M → CR) (g : Bag) (m : Int) (hg : g.Ok) (h0 : 0 < m) (h1 : m < 340282366920938463463374607431768211456) :
    g__law_take call [g.enc, .d (.int m)] = .ok (.d (.int (g.fill.val m))) [some (g.fill.left m).enc, some (.d (.int m))] := by
  obtain ⟨a, b, c, xs⟩ := g
  obtain ⟨ha, hb, hb1, hc, hx⟩ := hg
  dsimp only at ha hb hb1 hc hx
  have hm : m ≠ 0 := by omega
  have hdm : divOk m = true := divOk_of h0 h1
  have hd7 : divOk 7 = true := by decide
  unfold g__law_take
  by_cases ha0 : a = 0
  · subst ha0
    have hcell : 0 ≤ (Bag.mk 0 b c xs).cell := by
      unfold Bag.cell
      dsimp only
      split
      · rename_i hl
        rw [List.getD_eq_getElem?_getD]
        cases e : xs[c.toNat]? with
        | none => simp
        | some y => simp; exact hx y (List.mem_of_getElem? e)
      · omega
    have hk : ∀ k : Int, 0 < k → k ≠ 0 := fun k h => by omega
    by_cases hcl : c < xs.length
    · have hat : atI (xs.map D.int) c = some (.int (Bag.mk 0 b c xs).cell) := by
        refine atI_ok hc ?_
        unfold Bag.cell
        dsimp only
        rw [if_pos hcl, List.getElem?_map, List.getD_eq_getElem?_getD]
        have : c.toNat < xs.length := by omega
        rw [List.getElem?_eq_getElem this]
        rfl
      by_cases hbig : 1000000000000000000 ≤ (Bag.mk 0 b c xs).cell
      · have hpos : 0 < (Bag.mk 0 b c xs).cell := by omega
        simp -dsimp [List.replicate, b__law_take, Bag.enc, Bag.fill, Bag.val, Bag.left, hm, hdm, fmod_pos h0, fdiv_pos h0, hcl, hat, hbig, hpos, fmod_pos (show (0 : Int) < 2147483647 by decide), mulOk_r, mulOk_l]
      · have hz : Bag.cell ⟨0, b, c, xs⟩ = Bag.cell ⟨0, b, c, xs⟩ := rfl
        by_cases hbm : 1000000 < m
        · simp -dsimp [List.replicate, b__law_take, Bag.enc, Bag.fill, Bag.val, Bag.left, Bag.fst, Bag.snd, hm, hdm, hd7, fmod_pos h0, fdiv_pos h0, hcl, hat, hbig, fmod_pos (show (0 : Int) < 2147483647 by decide), fmod_pos (show (0 : Int) < 1000000007 by decide), fmod_pos (show (0 : Int) < 998244353 by decide), fdiv_pos (show (0 : Int) < 7 by decide), mulOk_r, mulOk_l, mulOk_modl, hbm]
        · simp -dsimp [List.replicate, b__law_take, Bag.enc, Bag.fill, Bag.val, Bag.left, Bag.fst, Bag.snd, hm, hdm, hd7, fmod_pos h0, fdiv_pos h0, hcl, hat, hbig, fmod_pos (show (0 : Int) < 2147483647 by decide), fmod_pos (show (0 : Int) < 1000000007 by decide), fmod_pos (show (0 : Int) < 998244353 by decide), fdiv_pos (show (0 : Int) < 7 by decide), mulOk_r, mulOk_l, mulOk_modl, hbm]
    · have hz : Bag.cell ⟨0, b, c, xs⟩ = 0 := by unfold Bag.cell; dsimp only; rw [if_neg hcl]
      by_cases hbm : 1000000 < m
      · simp -dsimp [List.replicate, b__law_take, Bag.enc, Bag.fill, Bag.val, Bag.left, Bag.fst, Bag.snd, hm, hdm, hd7, fmod_pos h0, fdiv_pos h0, hcl, hz, fmod_pos (show (0 : Int) < 2147483647 by decide), fmod_pos (show (0 : Int) < 1000000007 by decide), fmod_pos (show (0 : Int) < 998244353 by decide), fdiv_pos (show (0 : Int) < 7 by decide), mulOk_r, mulOk_l, mulOk_modl, hbm]
      · simp -dsimp [List.replicate, b__law_take, Bag.enc, Bag.fill, Bag.val, Bag.left, Bag.fst, Bag.snd, hm, hdm, hd7, fmod_pos h0, fdiv_pos h0, hcl, hz, fmod_pos (show (0 : Int) < 2147483647 by decide), fmod_pos (show (0 : Int) < 1000000007 by decide), fmod_pos (show (0 : Int) < 998244353 by decide), fdiv_pos (show (0 : Int) < 7 by decide), mulOk_r, mulOk_l, mulOk_modl, hbm]
  · have h : 0 < a := by omega
    simp -dsimp [List.replicate, b__law_take, Bag.enc, Bag.fill, Bag.val, Bag.left, ha0, h, hm, hdm, fmod_pos h0, fdiv_pos h0]
@[simp] theorem own_enc (g : Bag) : M.own g.enc = true := rfl
/-- what a draw gives -/
theorem take_wp (call : Str → List M → CR) (g : Bag) (m : Int) (hg : g.Ok) (h0 : 0 < m) (h1 : m < 340282366920938463463374607431768211456) {Q : M → List (Option M) → Prop}
    (h : ∀ (v : Int) (g' : Bag), 0 ≤ v → v < m → g'.Ok → Q (.d (.int v)) [some g'.enc, some (.d (.int m))]) : (g__law_take call [g.enc, .d (.int m)]).wp Q := by
  rw [take_eq call g m hg h0 h1, cwp_ok]
  have v := Bag.val_rng (g := g.fill) h0
  exact h _ _ v.1 v.2 (Bag.left_ok (Bag.fill_ok hg) h0)

/-- a comprehension that leaves all else as it is -/
theorem mLc_mapP {own : List Nat} {fi : FI} {g : FG} {fe : FE} {S S1 : SS} {ds : List D} (f : D → D) (h : fi S = .ok ds S1)
    (hs : ∀ d ∈ ds, ∃ S2, g d (wipeS S1 own) = some S2 ∧ (fe S2).wp fun o S4 => ∃ S5, force o S4 = some (f d, S5) ∧ wipeS S5 own = wipeS S1 own)
    (hl : ds.length ≤ line) : mLc own fi g tTrue fe S = .ok (.lst (ds.map f)) (restS S1 S1 own) := by
  have := mLc_map (own := own) (g := g) (t := tTrue) (fe := fe) (fun _ => true) f h (fun d hd => by
    obtain ⟨S2, h1, h2⟩ := hs d hd
    refine ⟨S2, S2, h1, rfl, (fun h => by cases h), fun _ => ?_⟩
    obtain ⟨o, S4, e, h2⟩ := R.wp_ok' h2
    obtain ⟨S5, h3, h4⟩ := h2
    exact ⟨o, S4, S5, e, h3, h4⟩) hl
  rw [this, List.filter_eq_self.mpr (fun _ _ => rfl)]
theorem wp_lcL {own : List Nat} {g : FG} {t : FB} {fe : FE} {Q : List D → SS → Prop} (I : List D → List D → SS → Prop) (h0 : ∀ acc S, I [] acc S → Q acc S)
    (h : ∀ d ds acc S, I (d :: ds) acc S → ∃ S1, g d (wipeS S own) = some S1 ∧ (t S1).wp fun b S2 => (b = true → (fe S2).wp fun o S3 => ∃ x S4, force o S3 = some (x, S4) ∧ acc.length < line ∧ I ds (acc ++ [x]) S4) ∧ (b = false → I ds acc S2)) :
    ∀ (ds : List D) (S : SS) (acc : List D), I ds acc S → (lcL own g t fe ds S acc).wp Q
  | [], S, acc, hI => R.wp_of rfl (h0 acc S hI)
  | d :: ds, S, acc, hI => by
    obtain ⟨S1, e1, h1⟩ := h d ds acc S hI
    show R.wp (match g d (wipeS S own) with
      | none => R.no
      | some S1 => (t S1).bind fun b S2 => if b = true then (fe S2).bind fun o S3 => (match force o S3 with
          | some (x, S4) => if acc.length < line then lcL own g t fe ds S4 (acc ++ [x]) else .no
          | none => .no) else lcL own g t fe ds S2 acc) Q
    rw [e1]
    dsimp only
    rw [wp_bind]
    refine R.wp_mono h1 fun b S2 h2 => ?_
    cases b with
    | false =>
      rw [if_neg (by decide)]
      exact wp_lcL I h0 h ds S2 acc (h2.2 rfl)
    | true =>
      rw [if_pos rfl, wp_bind]
      refine R.wp_mono (h2.1 rfl) fun o S3 h3 => ?_
      obtain ⟨x, S4, e3, h4, h5⟩ := h3
      rw [e3]
      dsimp only
      rw [if_pos h4]
      exact wp_lcL I h0 h ds S4 (acc ++ [x]) h5
/-- a comprehension, by what holds with what is left and what is made -/
theorem wp_lc {own : List Nat} {fi : FI} {g : FG} {t : FB} {fe : FE} {Q : M → SS → Prop} {S S1 : SS} {ds : List D} (I : List D → List D → SS → Prop) (hf : fi S = .ok ds S1) (h1 : I ds [] S1)
    (h : ∀ d ds acc S, I (d :: ds) acc S → ∃ S1, g d (wipeS S own) = some S1 ∧ (t S1).wp fun b S2 => (b = true → (fe S2).wp fun o S3 => ∃ x S4, force o S3 = some (x, S4) ∧ acc.length < line ∧ I ds (acc ++ [x]) S4) ∧ (b = false → I ds acc S2))
    (h0 : ∀ acc S, I [] acc S → Q (.lst acc) (restS S1 S own)) : (mLc own fi g t fe S).wp Q := by
  unfold mLc
  rw [hf, bind_ok, wp_bind]
  exact wp_lcL I (fun acc S hI => R.wp_of rfl (h0 acc S hI)) h ds S1 [] h1
@[simp] theorem absD_i (i : Int) : absD (.int i) = some (.d (.int (if i < 0 then -i else i))) := (rfl)
@[simp] theorem maxD_ii (i j : Int) : maxD (.int i) (.int j) = some (.d (.int (if j > i then j else i))) := (rfl)
@[simp] theorem intD_i (i : Int) : intD (.int i) = some (.d (.int i)) := (rfl)
@[simp] theorem intD_b (b : Bool) : intD (.bl b) = some (.d (.int (if b then 1 else 0))) := (rfl)
@[simp] theorem tupleD_l (xs : List D) : tupleD (.lst xs) = some (.d (.tup xs)) := (rfl)
@[simp] theorem tupleD_t (xs : List D) : tupleD (.tup xs) = some (.d (.tup xs)) := (rfl)
@[simp] theorem listD_l (xs : List D) : listD (.lst xs) = some (.lst xs) := (rfl)
@[simp] theorem listD_t (xs : List D) : listD (.tup xs) = some (.lst xs) := (rfl)
@[simp] theorem ixD_s (z : Str) (i : Int) : ixD (.str z) (.int i) = if z.length ≤ line then (atI z.cps.toList i).map fun c => .d (.str ⟨#[c]⟩) else none := (rfl)
@[simp] theorem sliceD_s (z : Str) (lo hi : Option Int) : sliceD lo hi (.str z) = if z.length ≤ line then some (.d (.str (cutS z lo hi))) else none := (rfl)
@[simp] theorem sliceD_l (z : List D) (lo hi : Option Int) : sliceD lo hi (.lst z) = some (.lst (cutD z lo hi)) := (rfl)
@[simp] theorem sliceD_t (z : List D) (lo hi : Option Int) : sliceD lo hi (.tup z) = some (.d (.tup (cutD z lo hi))) := (rfl)
@[simp] theorem mulD_li (xs : List D) (k : Int) : mulD (.lst xs) (.int k) = if (-(2 ^ 63) ≤ k ∧ k < 2 ^ 63) ∧ xs.length * k.toNat ≤ line then some (.lst (List.replicate k.toNat xs).flatten) else none := (rfl)
@[simp] theorem line_v : line = 16777216 := by unfold line; rfl
@[simp] theorem eqb_bt (b : Bool) (i : List D) : D.eqb (.bl b) (.tup i) = false := (rfl)
@[simp] theorem eqb_tb (b : Bool) (i : List D) : D.eqb (.tup i) (.bl b) = false := (rfl)
@[simp] theorem knd_non : D.knd .non = "NoneType" := (rfl)

/-- numbers to 10^18 of either sign, truths, tuples of these -/
inductive Vl : Nat → D → Prop
  | int (k : Nat) (i : Int) : -1000000000000000000 ≤ i → i ≤ 1000000000000000000 → Vl k (.int i)
  | bl (k : Nat) (b : Bool) : Vl k (.bl b)
  | tup (k : Nat) (ds : List D) : ds.length ≤ 1000 → (∀ d ∈ ds, Vl k d) → Vl (k + 1) (.tup ds)
theorem Vl.mono {k k' : Nat} {d : D} (h : Vl k d) : k ≤ k' → Vl k' d := by
  induction h generalizing k' with
  | int k i h1 h2 => exact fun _ => .int _ _ h1 h2
  | bl k b => exact fun _ => .bl _ _
  | tup k ds hl h ih =>
    intro hk
    cases k' with
    | zero => omega
    | succ k' => exact .tup _ _ hl fun d hd => ih d hd (by omega)
theorem pls_of {ds : List D} (h : ∀ d ∈ ds, d.pl = true) : D.pls ds = true := by
  induction ds with
  | nil => rfl
  | cons x xs ih => rw [pls_cons, h x (List.mem_cons_self ..), ih fun d hd => h d (List.mem_cons_of_mem _ hd)]; rfl
theorem deps_of {ds : List D} {k : Nat} (h : ∀ d ∈ ds, d.dep ≤ k) : D.deps ds ≤ k := by
  induction ds with
  | nil => exact Nat.zero_le _
  | cons x xs ih =>
    rw [deps_cons]
    exact Nat.max_le.mpr ⟨h x (List.mem_cons_self ..), ih fun d hd => h d (List.mem_cons_of_mem _ hd)⟩
theorem Vl.pl {k : Nat} {d : D} (h : Vl k d) : d.pl = true := by
  induction h with
  | int k i h1 h2 => rfl
  | bl k b => rfl
  | tup k ds hl h ih => rw [pl_tup]; exact pls_of ih
theorem Vl.dep {k : Nat} {d : D} (h : Vl k d) : d.dep ≤ k := by
  induction h with
  | int k i h1 h2 => exact Nat.zero_le _
  | bl k b => exact Nat.zero_le _
  | tup k ds hl h ih => rw [dep_tup]; exact Nat.succ_le_succ (deps_of ih)
mutual
/-- the same value, kinds and all -/
noncomputable def D.sm : D → D → Bool
  | .tup xs, y => match y with
    | .tup ys => D.sms xs ys
    | _ => false
  | .int i, y => match y with
    | .int j => i == j
    | _ => false
  | .bl i, y => match y with
    | .bl j => i == j
    | _ => false
  | _, _ => false
noncomputable def D.sms : List D → List D → Bool
  | [], ys => match ys with
    | [] => true
    | _ :: _ => false
  | x :: xs, ys => match ys with
    | [] => false
    | y :: ys => D.sm x y && D.sms xs ys
end
@[simp] theorem sm_tt (xs ys : List D) : D.sm (.tup xs) (.tup ys) = D.sms xs ys := (rfl)
@[simp] theorem sm_ii (i j : Int) : D.sm (.int i) (.int j) = (i == j) := (rfl)
@[simp] theorem sm_bb (i j : Bool) : D.sm (.bl i) (.bl j) = (i == j) := (rfl)
@[simp] theorem sm_it (i : Int) (ys : List D) : D.sm (.int i) (.tup ys) = false := (rfl)
@[simp] theorem sm_ti (i : Int) (ys : List D) : D.sm (.tup ys) (.int i) = false := (rfl)
@[simp] theorem sm_bt (i : Bool) (ys : List D) : D.sm (.bl i) (.tup ys) = false := (rfl)
@[simp] theorem sm_tb (i : Bool) (ys : List D) : D.sm (.tup ys) (.bl i) = false := (rfl)
@[simp] theorem sm_ib (i : Int) (j : Bool) : D.sm (.int i) (.bl j) = false := (rfl)
@[simp] theorem sm_bi (i : Int) (j : Bool) : D.sm (.bl j) (.int i) = false := (rfl)
theorem asBls_map : ∀ bs : List Bool, asBls (bs.map D.bl) = some bs
  | [] => rfl
  | b :: bs => by
    show (asBls (bs.map D.bl)).map (b :: ·) = _
    rw [asBls_map bs]
    rfl
theorem allD_bls (bs : List Bool) : allD (.lst (bs.map D.bl)) = some (.d (.bl (bs.all id))) := by
  show (asBls (bs.map D.bl)).map _ = _
  rw [asBls_map]
  rfl
section
variable {X : Cx} {kp : Nat → Bool} {e a b c : Expr} {pos : Pos} {K : KG} {F : Hp}

/-- sep.join(texts) -/
noncomputable def asStrs : List D → Option (List Str)
  | [] => some []
  | .str i :: ds => (asStrs ds).map (i :: ·)
  | _ :: _ => none
theorem asStrs_ok : ∀ {ds : List D} {ns : List Str} {vs : List V}, asStrs ds = some ns → RepDs K F vs ds → vs = ns.map V.str
  | [], _, _, e, .nil => by cases e; rfl
  | d :: ds, ns, _, e, .cons h r => by
    cases d with
    | str i =>
      have e : (asStrs ds).map (i :: ·) = some ns := e
      cases e2 : asStrs ds with
      | none => rw [e2] at e; cases e
      | some l =>
        rw [e2] at e
        cases e
        cases h
        rw [asStrs_ok e2 r]
        rfl
    | _ => cases e
noncomputable def joinD (x : Str) (d : D) : Option D :=
  match (match d with | .lst xs => asStrs xs | .tup xs => asStrs xs | _ => none) with
  | some ys => if (ys.map (·.length)).sum + ys.length * x.length ≤ 16777216 then some (.str (Txt.join x ys)) else none
  | none => none
noncomputable def mJoin (fo fe : FE) : FM := fun S => (fo S).bind fun o S => match o.get S with
  | some (.str x) => (fe S).bind fun p S => (match p.get S with
    | some d => (match joinD x d with
      | some z => .ok (.d z) S
      | none => .no)
    | none => .no)
  | _ => .no
theorem dm_join {o : Expr} {fo fe : FE} {apos : Pos} (ho : DE X fo o) (he : DE X fe e) (hs : starEach [e] X.env = [(false, eval e X.env)] := by rfl)
    (hb : attributeBase o "join" X.env (eval o X.env) = eval o X.env := by rfl) (hp : (apos.endLine == pos.line) = true := by rfl) :
    DM X (mJoin fo fe) (.Call (.Attribute o "join" apos) [e] [] pos) := PE.imp (pe_join ho he hs hb hp) fun σ H Q ⟨F, O, S, m, S', r, hf, k⟩ => by
  obtain ⟨o1, S1, h1, h2⟩ := R.bind_ok hf
  refine ⟨F, O, S, o1, S1, r, h1, fun v H1 F1 O1 st1 r1 ro => ?_⟩
  cases eg : o1.get S1 with
  | none => rw [eg] at h2; cases h2
  | some d =>
    rw [eg] at h2
    cases d with
    | str x =>
      dsimp only at h2
      obtain rfl := (r1.view ro eg).str
      obtain ⟨p, S2, h3, h4⟩ := R.bind_ok h2
      refine ⟨⟨x, rfl⟩, F1, O1, S1, p, S2, r1, h3, fun w H2 F2 O2 st2 r2 rp => ?_⟩
      cases eg2 : p.get S2 with
      | none => rw [eg2] at h4; cases h4
      | some d =>
        rw [eg2] at h4
        dsimp only at h4
        cases ej : joinD x d with
        | none => rw [ej] at h4; cases h4
        | some z =>
          rw [ej] at h4
          cases h4
          have vw := r2.view rp eg2
          unfold joinD at ej
          have fin : ∀ v : V, ∀ d, RepD (kg X) F2 v d → z = d → Q v H2 := fun v d rd e => by
            subst e
            exact k v H2 F2 O2 (st1.trans st2) r2 rd
          cases d with
          | lst xs =>
            obtain ⟨p, vs, rfl, hl, rl⟩ := vw.list r2.bs.fh
            dsimp only at ej
            cases ea : asStrs xs with
            | none => rw [ea] at ej; cases ej
            | some ys =>
              rw [ea] at ej
              dsimp only at ej
              split at ej
              · rename_i hh
                cases ej
                refine ⟨x, p, ys, rfl, rfl, .inl ?_, hh, fin _ _ (.str _) rfl⟩
                rw [← asStrs_ok ea rl]
                exact .inl hl
              · cases ej
          | tup xs =>
            obtain ⟨p, vs, rfl, hl, rl⟩ := vw.tuple r2.bs.fh
            dsimp only at ej
            cases ea : asStrs xs with
            | none => rw [ea] at ej; cases ej
            | some ys =>
              rw [ea] at ej
              dsimp only at ej
              split at ej
              · rename_i hh
                cases ej
                refine ⟨x, p, ys, rfl, rfl, .inr ?_, hh, fin _ _ (.str _) rfl⟩
                rw [← asStrs_ok ea rl]
                exact hl
              · cases ej
          | _ => cases ej
    | _ => cases h2

/-- a text's method of one thing -/
noncomputable def mStr (g : Str → D → Option D) (fo fe : FE) : FM := fun S => (fo S).bind fun o S => match o.get S with
  | some (.str x) => (fe S).bind fun p S => (match p.get S with
    | some d => (match g x d with
      | some z => .ok (.d z) S
      | none => .no)
    | none => .no)
  | _ => .no
noncomputable def rstripD (x : Str) (d : D) : Option D := match d with
  | .str y => if x.length ≤ line then some (.str (Txt.rstripChars x y)) else none
  | _ => none
theorem dm_rstrip {o : Expr} {fo fe : FE} {apos : Pos} (ho : DE X fo o) (he : DE X fe e)
    (hb : attributeBase o "rstrip" X.env (eval o X.env) = eval o X.env := by rfl)
    (hq : (((backTo pos (starEach [e] X.env)).all (fun x => !x.1) && (backToKw pos (keywordEach [] X.env)).all (fun x => x.1.isSome)) && decide (([e].length + ([] : List Keyword).length + if ([] : List Keyword).isEmpty then 0 else 1) < 30)) = true := by rfl)
    (hp : (apos.endLine == pos.line) = true := by rfl) (hs : starEach [e] X.env = (false, eval e X.env) :: starEach [] X.env := by rfl) (hn : ((backTo pos (starEach [] X.env)).any fun x => x.1) = false := by rfl) :
    DM X (mStr rstripD fo fe) (.Call (.Attribute o "rstrip" apos) [e] [] pos) := PE.imp (pe_bm PySem.F.plainAttrs_str PySem.F.slot_str_rstrip PySem.F.type_str_rstrip mt_rstripChars ho (da_cons he da_nil hs) hb hq hp hs hn) fun σ H Q ⟨F, O, S, m, S', r, hf, k⟩ => by
  obtain ⟨o1, S1, h1, h2⟩ := R.bind_ok hf
  refine ⟨F, O, S, o1, S1, r, h1, fun v H1 F1 O1 st1 r1 ro => ?_⟩
  cases eg : o1.get S1 with
  | none => rw [eg] at h2; cases h2
  | some d =>
    rw [eg] at h2
    cases d with
    | str x =>
      dsimp only at h2
      obtain rfl := (r1.view ro eg).str
      obtain ⟨p, S2, h3, h4⟩ := R.bind_ok h2
      have h5 : aCons fe aNil S1 = .ok [p] S2 := by
        show (fe S1).bind _ = _
        rw [h3]
        rfl
      refine ⟨rfl, F1, O1, S1, [p], S2, r1, h5, fun ws H2 F2 O2 st2 r2 rps => ?_⟩
      match ws, rps with
      | [w], .cons rp .nil =>
        cases eg2 : p.get S2 with
        | none => rw [eg2] at h4; cases h4
        | some d =>
          rw [eg2] at h4
          dsimp only at h4
          have vw := r2.view rp eg2
          cases d with
          | str y =>
            have h4 : (match (if x.length ≤ line then some (D.str (Txt.rstripChars x y)) else none) with | some z => R.ok (M.d z) S2 | none => .no) = .ok m S' := h4
            split at h4
            · rename_i z hz
              split at hz
              · rename_i hl
                cases hz
                cases h4
                obtain rfl := vw.str
                exact ⟨x, y, rfl, rfl, by rw [← line_eq]; exact hl, k _ H2 F2 O2 (st1.trans st2) r2 (.str _)⟩
              · cases hz
            · cases h4
          | _ => cases h4
    | _ => cases h2
end
section
variable {X : Cx} {kp : Nat → Bool} {a b : Expr} {pos : Pos}
end
@[simp] theorem mJoin_ap (fo fe : FE) (S : SS) : mJoin fo fe S = (fo S).bind fun o S => match o.get S with
  | some (.str x) => (fe S).bind fun p S => (match p.get S with
    | some d => (match joinD x d with
      | some z => .ok (.d z) S
      | none => .no)
    | none => .no)
  | _ => .no := (rfl)
@[simp] theorem mStr_ap (g : Str → D → Option D) (fo fe : FE) (S : SS) : mStr g fo fe S = (fo S).bind fun o S => match o.get S with
  | some (.str x) => (fe S).bind fun p S => (match p.get S with
    | some d => (match g x d with
      | some z => .ok (.d z) S
      | none => .no)
    | none => .no)
  | _ => .no := (rfl)
@[simp] theorem rstripD_s (x y : Str) : rstripD x (.str y) = if x.length ≤ line then some (.str (Txt.rstripChars x y)) else none := (rfl)
@[simp] theorem mulD_si (x : Str) (k : Int) : mulD (.str x) (.int k) = if 0 ≤ k ∧ k ≤ 1000 ∧ x.length ≤ 1000 then some (.d (.str (repS x k.toNat))) else none := (rfl)
@[simp] theorem mulD_ti (xs : List D) (k : Int) : mulD (.tup xs) (.int k) = if 0 ≤ k ∧ k ≤ 10000 ∧ xs ≠ [] ∧ xs.length ≤ 100 then some (.d (.tup (List.replicate k.toNat xs).flatten)) else none := (rfl)
@[simp] theorem sms_nl : D.sms [] [] = true := (rfl)
@[simp] theorem sms_nc (x : D) (xs : List D) : D.sms [] (x :: xs) = false := (rfl)
@[simp] theorem sms_cn (x : D) (xs : List D) : D.sms (x :: xs) [] = false := (rfl)
@[simp] theorem sms_cc (x y : D) (xs ys : List D) : D.sms (x :: xs) (y :: ys) = (D.sm x y && D.sms xs ys) := (rfl)
/-! ### enumerate(text) -/
section
variable {X : Cx} {a : Expr} {pos : Pos}
end
/-! ### dict displays -/
section
variable {X : Cx} {pos : Pos}
end
section
variable {X : Cx} {pos : Pos}
end
noncomputable def tl (x : Str) : List Nat := x.cps.toList
theorem tl_ext {x y : Str} (h : tl x = tl y) : x = y := TL.ext_tl h
theorem tl_one (c : Nat) : tl ⟨#[c]⟩ = [c] := rfl
@[simp] theorem tl_app (x y : Str) : tl (x ++ y) = tl x ++ tl y := TL.tl_append x y
theorem tl_len (x : Str) : x.length = (tl x).length := (Array.length_toList).symm
@[simp] theorem len_app (x y : Str) : (x ++ y).length = x.length + y.length := PySem.Str.length_append x y
theorem tl_rep (x : Str) (k : Nat) : tl (repS x k) = (List.replicate k (tl x)).flatten := by
  show ((List.replicate k x.cps).foldl (· ++ ·) #[]).toList = _
  have key : ∀ (k : Nat) (a : Array Nat), ((List.replicate k x.cps).foldl (· ++ ·) a).toList = a.toList ++ (List.replicate k (tl x)).flatten := by
    intro k
    induction k with
    | zero => intro a; simp
    | succ k ih =>
      intro a
      rw [List.replicate_succ, List.foldl_cons, ih, Array.toList_append, List.replicate_succ, List.flatten_cons, List.append_assoc]
      rfl
  rw [key]
  simp
theorem tl_num (m : Nat) : tl (Str.ofString (toString (m : Int))) = (Nat.toDigits 10 m).map Char.toNat := PySem.W.KIN.signs_num m
theorem num_digits {n : Int} (h : 0 ≤ n) : ∀ c ∈ tl (Str.ofString (toString n)), 48 ≤ c ∧ c ≤ 57 := by
  obtain ⟨m, rfl⟩ := Int.eq_ofNat_of_zero_le h
  intro c hc
  rw [tl_num] at hc
  obtain ⟨ch, hch, e⟩ := List.mem_map.mp hc
  rw [← e]
  exact digit_range (Nat.isDigit_of_mem_toDigits (by decide) (by decide) hch)
theorem num_len {n : Int} (h0 : 0 ≤ n) (h1 : n < 10 ^ 10) : (Str.ofString (toString n)).length ≤ 10 := PySem.W.KT.len_num h0 h1
theorem cutS_tl (z : Str) (lo hi : Option Int) : tl (cutS z lo hi) = ((tl z).drop (HT.sIx (tl z).length 0 lo)).take (HT.sIx (tl z).length (tl z).length hi - HT.sIx (tl z).length 0 lo) := by
  rw [← tl_len]; rfl
theorem cutS_len (z : Str) (lo hi : Option Int) : (cutS z lo hi).length ≤ z.length := by
  rw [tl_len, tl_len z, cutS_tl, List.length_take, List.length_drop]
  omega
theorem cutS_mem {z : Str} {lo hi : Option Int} {c : Nat} (h : c ∈ tl (cutS z lo hi)) : c ∈ tl z := by
  rw [cutS_tl] at h
  exact List.mem_of_mem_drop (List.mem_of_mem_take h)
/-- what is left when a tail of such signs is taken off -/
noncomputable def rdrop (p : Nat → Bool) (l : List Nat) : List Nat := (l.reverse.dropWhile p).reverse
theorem rstrip_tl (x y : Str) : tl (Txt.rstripChars x y) = rdrop (fun c => (tl y).contains c) (tl x) := by
  unfold Txt.rstripChars
  rw [stripBy_eq]
  show (x.cps.extract 0 (stripHi _ true x 0)).toList = _
  have e : (fun c => (tl y).contains c) = y.cps.contains := by
    funext c
    exact Array.contains_toList
  rw [e]
  unfold stripHi rdrop
  rw [if_pos rfl, Array.toList_extract, List.drop_zero]
  have key : ∀ (p : Nat → Bool) (l : List Nat), l.take (l.length - (l.reverse.takeWhile p).length) = (l.reverse.dropWhile p).reverse := by
    intro p l
    have h := List.takeWhile_append_dropWhile (p := p) (l := l.reverse)
    have h2 : l = (l.reverse.dropWhile p).reverse ++ (l.reverse.takeWhile p).reverse := by
      rw [← List.reverse_append, h, List.reverse_reverse]
    have h3 : l.length - (l.reverse.takeWhile p).length = (l.reverse.dropWhile p).reverse.length := by
      have := congrArg List.length h
      rw [List.length_append, List.length_reverse] at this
      rw [List.length_reverse]
      omega
    rw [h3]
    generalize (l.reverse.dropWhile p).reverse = a at h2
    rw [h2]
    simp
  have := key y.cps.contains (tl x)
  rw [← tl_len] at this
  have this2 : List.take (x.length - (List.takeWhile y.cps.contains x.cps.toList.reverse).length) x.cps.toList = (List.dropWhile y.cps.contains (tl x).reverse).reverse := this
  simpa [List.extract] using this2
theorem rdrop_app {p : Nat → Bool} {a b : List Nat} (hb : ∀ c ∈ b, p c = true) (ha : ∀ c ∈ a, p c = false) : rdrop p (a ++ b) = a := by
  unfold rdrop
  rw [List.reverse_append, List.dropWhile_append_of_pos (by simpa using hb)]
  have : a.reverse.dropWhile p = a.reverse := by
    cases h : a.reverse with
    | nil => rfl
    | cons c r =>
      have hc : c ∈ a := by
        have : c ∈ a.reverse := by rw [h]; exact List.mem_cons_self ..
        exact List.mem_reverse.mp this
      rw [List.dropWhile_cons_of_neg (by rw [ha c hc]; exact Bool.false_ne_true)]
  rw [this, List.reverse_reverse]
theorem asStrs_map : ∀ ns : List Str, asStrs (ns.map D.str) = some ns
  | [] => rfl
  | n :: ns => by
    show (asStrs (ns.map D.str)).map (n :: ·) = _
    rw [asStrs_map ns]
    rfl
/-- a number's text -/
noncomputable def num (i : Int) : Str := Str.ofString (toString i)
theorem num_d {n : Int} (h : 0 ≤ n) : ∀ c ∈ tl (num n), 48 ≤ c ∧ c ≤ 57 := num_digits h
theorem num_l {n : Int} (h0 : 0 ≤ n) (h1 : n < 10000000000) : (num n).length ≤ 10 := num_len h0 h1
theorem app_inj {s x y : Str} (h : s ++ x = s ++ y) : x = y := by
  have e : tl (s ++ x) = tl (s ++ y) := by rw [h]
  rw [tl_app, tl_app] at e
  exact tl_ext (List.append_cancel_left e)
@[simp] theorem strD_i (i : Int) : strD (.int i) = if -18446744073709551616 < i ∧ i < 18446744073709551616 then some (.d (.str (num i))) else none := (rfl)
@[simp] theorem strD_s (x : Str) : strD (.str x) = some (.d (.str x)) := (rfl)
theorem eq_of_wp {c : CR} {a : M} {S : List (Option M)} (q : c.wp fun r fin => r = a ∧ fin = S) : c = .ok a S := by
  obtain ⟨x, T, e, rfl, rfl⟩ := CR.wp_ok q
  exact e
/-! ### lists of texts -/
theorem any_str (x : Str) (ws : List Str) : ((ws.map D.str).any fun y => D.eqb y (.str x)) = decide (x ∈ ws) := by
  induction ws with
  | nil => rfl
  | cons w ws ih =>
    rw [List.map_cons, List.any_cons, ih, eqb_ss]
    by_cases h : w = x
    · subst h; simp
    · have : (w == x) = false := by simpa using h
      rw [this, Bool.false_or]
      simp [Ne.symm h]
theorem pls_strs (ws : List Str) : D.pls (ws.map .str) = true := pls_of fun d hd => by obtain ⟨b, _, rfl⟩ := List.mem_map.mp hd; rfl
theorem inOk_strs (x : Str) (ws : List Str) : inOk (.str x) (ws.map .str) = true := by
  unfold inOk
  simp [pls_strs]
noncomputable def cutL {α : Type} (xs : List α) (lo hi : Option Int) : List α := (xs.drop (HT.sIx xs.length 0 lo)).take (HT.sIx xs.length xs.length hi - HT.sIx xs.length 0 lo)
theorem cutD_map {α : Type} (f : α → D) (xs : List α) (lo hi : Option Int) : cutD (xs.map f) lo hi = (cutL xs lo hi).map f := by
  unfold cutD cutL
  rw [List.length_map, ← List.map_drop, ← List.map_take]
theorem cutL_mem {α : Type} {x : α} {xs : List α} {lo hi : Option Int} (h : x ∈ cutL xs lo hi) : x ∈ xs := List.mem_of_mem_drop (List.mem_of_mem_take h)
theorem ne_nil (xs : List D) : neD (.lst xs) (.lst []) = some (.d (.bl (!xs.isEmpty))) := by
  cases xs with
  | nil => rfl
  | cons x xs =>
    unfold neD
    split
    · rfl
    · rfl
mutual
theorem D.py_nd : ∀ d : D, d.pl = true → d.py.hasDict = false
  | .non, _ => rfl
  | .bl _, _ => rfl
  | .int _, _ => rfl
  | .str _, _ => rfl
  | .tup xs, h => D.pys_nd xs h
  | .lst xs, h => D.pys_nd xs h
theorem D.pys_nd : ∀ xs : List D, D.pls xs = true → PyData.hasDictAll (D.pys xs) = false
  | [], _ => rfl
  | x :: xs, h => by
    have h : (D.pl x && D.pls xs) = true := h
    rw [Bool.and_eq_true] at h
    show (PyData.hasDict (D.py x) || PyData.hasDictAll (D.pys xs)) = false
    rw [D.py_nd x h.1, D.pys_nd xs h.2]
    rfl
end
noncomputable def rp (d : D) : Str := d.py.shown
noncomputable def rpOk (d : D) : Bool := d.pl && d.py.showable && decide (d.dep ≤ 196) && decide ((rp d).length ≤ 16777216)
noncomputable def reprD : D → Option M
  | .lst xs => if rpOk (.lst xs) = true then some (.d (.str (rp (.lst xs)))) else none
  | .tup xs => if rpOk (.tup xs) = true then some (.d (.str (rp (.tup xs)))) else none
  | _ => none
section
variable {X : Cx}
theorem repr_at {n : Nat} {pins : List (Addr × Obj)} {s : Shared} {σ : St} {H F : Hp} {a : Addr} {d : D} {us : List Value} {Q : VK} (hr : RoomG n X.A) (I : Inv X pins σ H s) (r : Vals [.ref a] us) (l : Le F H) (w : View (kg X) H F (.ref a) d) (h : rpOk d = true) (wi : Wish (kg X) H F (.d (.str (rp d))) Q) :
    wpAny (model X.prog X.w) X.A (call (.builtin "repr") us) (EP X pins σ Q) X.xe s := by
  unfold rpOk at h
  rw [Bool.and_eq_true, Bool.and_eq_true, Bool.and_eq_true] at h
  obtain ⟨⟨⟨h1, h2⟩, h3⟩, h4⟩ := h
  have h3 := of_decide_eq_true h3
  have h4 : d.py.shown.length ≤ 16777216 := of_decide_eq_true h4
  obtain ⟨u, rfl, rv⟩ := vals1 r
  obtain rfl : u = Value.ref a := rv
  obtain ⟨as, R⟩ := (w.dp l h1).reads I d.py (.ref a) (.ref a) rfl
  have hd := D.py_dep d h1
  have un := hr.rm.un
  refine PySem.repr_of_reads' R h2 (PyData.noDict_hsm (D.py_nd d h1)) hr.gd (by rw [hd]; omega) (fun _ _ e => e) (fun h' u tk hk => ?_) (by rw [sizeLine_eq]; exact h4)
  exact ⟨.str _, H, I.kept hk, ⟨u, rfl⟩, wi.str⟩
theorem cd_repr {n : Nat} (hr : RoomG n X.A) : CallR X (.builtin "repr") (semC (kg X) (on1 reprD)) := call1 fun pins s σ H F v x us m Q I r l wx e wi => by
  cases x with
  | lst ds =>
    obtain ⟨a, vs, rfl, h1, r1⟩ := wx.list l
    have e : (if rpOk (.lst ds) = true then some (M.d (.str (rp (.lst ds)))) else none) = some m := e
    split at e
    · rename_i h
      cases e
      exact repr_at hr I r l wx h wi
    · cases e
  | tup ds =>
    obtain ⟨a, vs, rfl, h1, r1⟩ := wx.tuple l
    have e : (if rpOk (.tup ds) = true then some (M.d (.str (rp (.tup ds)))) else none) = some m := e
    split at e
    · rename_i h
      cases e
      exact repr_at hr I r l wx h wi
    · cases e
  | _ => cases e
end
@[simp] theorem reprD_l (xs : List D) : reprD (.lst xs) = if rpOk (.lst xs) = true then some (.d (.str (rp (.lst xs)))) else none := (rfl)
@[simp] theorem reprD_t (xs : List D) : reprD (.tup xs) = if rpOk (.tup xs) = true then some (.d (.str (rp (.tup xs)))) else none := (rfl)
/-! ### how long what repr tells may be -/
mutual
noncomputable def D.cst : D → Nat
  | .int _ => 25
  | .str x => 10 * x.length + 4
  | .tup xs => D.csts xs + 3
  | .lst xs => D.csts xs + 3
  | _ => 5
noncomputable def D.csts : List D → Nat
  | [] => 0
  | x :: xs => D.cst x + 2 + D.csts xs
end
mutual
noncomputable def D.fit : D → Bool
  | .non => true
  | .bl _ => true
  | .int i => decide (-18446744073709551616 < i ∧ i < 18446744073709551616)
  | .str x => x.cps.toList.all fun c => decide (c < 4294967296)
  | .tup xs => D.fits xs
  | .lst xs => D.fits xs
  | _ => false
noncomputable def D.fits : List D → Bool
  | [] => true
  | x :: xs => D.fit x && D.fits xs
end
@[simp] theorem cst_int (i : Int) : D.cst (.int i) = 25 := (rfl)
@[simp] theorem cst_bl (b : Bool) : D.cst (.bl b) = 5 := (rfl)
@[simp] theorem cst_non : D.cst .non = 5 := (rfl)
@[simp] theorem cst_str (x : Str) : D.cst (.str x) = 10 * x.length + 4 := (rfl)
@[simp] theorem cst_tup (xs : List D) : D.cst (.tup xs) = D.csts xs + 3 := (rfl)
@[simp] theorem cst_lst (xs : List D) : D.cst (.lst xs) = D.csts xs + 3 := (rfl)
@[simp] theorem csts_n : D.csts [] = 0 := (rfl)
@[simp] theorem csts_c (x : D) (xs : List D) : D.csts (x :: xs) = D.cst x + 2 + D.csts xs := (rfl)
@[simp] theorem fit_non : D.fit .non = true := (rfl)
@[simp] theorem fit_bl (b : Bool) : D.fit (.bl b) = true := (rfl)
@[simp] theorem fit_int (i : Int) : D.fit (.int i) = decide (-18446744073709551616 < i ∧ i < 18446744073709551616) := (rfl)
@[simp] theorem fit_tup (xs : List D) : D.fit (.tup xs) = D.fits xs := (rfl)
@[simp] theorem fit_lst (xs : List D) : D.fit (.lst xs) = D.fits xs := (rfl)
@[simp] theorem fits_n : D.fits [] = true := (rfl)
@[simp] theorem fits_c (x : D) (xs : List D) : D.fits (x :: xs) = (D.fit x && D.fits xs) := (rfl)
theorem listText_le (ts : List Str) : (listText ts).length ≤ piled ts + 3 := by
  cases ts with
  | nil => decide +kernel
  | cons t r =>
    have h := textFrom_length_pos r 1 (("[" : Str) ++ (if (0 : Nat) > 0 then ", " else "" : String) ++ t) (Nat.succ_pos 0)
    have e : ((("[" : Str) ++ (if (0 : Nat) > 0 then ", " else "" : String) ++ t)).length = 1 + t.length := by
      rw [strLen_append, strLen_append]; rfl
    have hX : (listText (t :: r)).length = (textFrom 1 (("[" : Str) ++ (if (0 : Nat) > 0 then ", " else "" : String) ++ t) r).length + 1 := by
      show (textFrom 0 "[" (t :: r) ++ "]").length = _
      rw [strLen_append]; rfl
    rw [hX, h, e, piled_cons]
    omega
mutual
theorem fit_ok : ∀ d : D, d.fit = true → d.pl = true ∧ d.py.showable = true ∧ (d.py.shown).length ≤ d.cst
  | .non, _ => ⟨rfl, rfl, by show ("None" : Str).length ≤ 5; decide +kernel⟩
  | .bl b, _ => ⟨rfl, rfl, by cases b <;> decide +kernel⟩
  | .int i, h => by
    have h := of_decide_eq_true (show decide (-18446744073709551616 < i ∧ i < 18446744073709551616) = true from h)
    refine ⟨rfl, ?_, ?_⟩
    · show decide (i.natAbs.log2 < 1920) = true
      exact decide_eq_true (Nat.lt_of_lt_of_le (PySem.Flt.log2_lt_of (k := 64) (by decide) (by omega)) (by decide))
    · have e := int_text_length_le10 (a := i) (k := 20) (by decide) (by omega)
      show (Str.ofString (toString i)).length ≤ 25
      rw [PySem.ofString_length]
      omega
  | .str x, h => by
    have h : (x.cps.toList.all fun c => decide (c < 4294967296)) = true := h
    refine ⟨rfl, rfl, ?_⟩
    have e := StrLaws.reprText_len x fun c hc => by
      have := of_decide_eq_true (List.all_eq_true.mp h c hc)
      have : (16 : Nat) ^ 8 = 4294967296 := by decide
      omega
    show (reprText x).length ≤ 10 * x.length + 4
    omega
  | .tup xs, h => by
    obtain ⟨h1, h2, h3⟩ := fits_ok xs h
    refine ⟨h1, h2, ?_⟩
    have e := fmt_text (PyData.shownAll (D.pys xs))
    show (tupleText (PyData.shownAll (D.pys xs))).length ≤ D.csts xs + 3
    omega
  | .lst xs, h => by
    obtain ⟨h1, h2, h3⟩ := fits_ok xs h
    refine ⟨h1, h2, ?_⟩
    have e := listText_le (PyData.shownAll (D.pys xs))
    show (listText (PyData.shownAll (D.pys xs))).length ≤ D.csts xs + 3
    omega
theorem fits_ok : ∀ xs : List D, D.fits xs = true → D.pls xs = true ∧ PyData.showableAll (D.pys xs) = true ∧ piled (PyData.shownAll (D.pys xs)) ≤ D.csts xs
  | [], _ => ⟨rfl, rfl, Nat.le_refl _⟩
  | x :: xs, h => by
    have h : (D.fit x && D.fits xs) = true := h
    rw [Bool.and_eq_true] at h
    obtain ⟨a1, a2, a3⟩ := fit_ok x h.1
    obtain ⟨b1, b2, b3⟩ := fits_ok xs h.2
    refine ⟨?_, ?_, ?_⟩
    · show (D.pl x && D.pls xs) = true
      rw [a1, b1]; rfl
    · show (PyData.showable (D.py x) && PyData.showableAll (D.pys xs)) = true
      rw [a2, b2]; rfl
    · show piled (PyData.shown (D.py x) :: PyData.shownAll (D.pys xs)) ≤ D.cst x + 2 + D.csts xs
      rw [piled_cons]
      omega
end
section
variable {prog : Program} {w : World} {A : Around} {E : Value → Shared → Prop} {s : Shared}
end
section
variable {X : Cx}
end
theorem RepDs.last {K : KG} {F : Hp} : ∀ {vs : List V} {ds : List D} {x : D}, RepDs K F vs ds → ds.getLast? = some x → ∃ v, vs = vs.dropLast ++ [v] ∧ RepD K F v x
  | [], [], x, _, h => by cases h
  | [v], [d], x, .cons a .nil, h => by
    cases h
    exact ⟨_, rfl, a⟩
  | v :: w :: vs, d :: d2 :: ds, x, .cons a r, h => by
    rw [List.getLast?_cons_cons] at h
    obtain ⟨z, e, hz⟩ := RepDs.last r h
    refine ⟨z, ?_, hz⟩
    rw [List.dropLast_cons₂, List.cons_append, ← e]
section
variable {X : Cx} {kp : Nat → Bool} {e : Expr} {pos pt : Pos} {x y : Str} {px py ps : Pos} {kt : Nat}
end
/-! ### x.reverse() -/
section
variable {X : Cx}
end
noncomputable def tabAt : List (Str × Int) → Str → Option Int
  | [], _ => none
  | (k, i) :: r, x => if k = x then some i else tabAt r x
noncomputable def tabIs (w : World) : List DictEntry → List (Str × Int) → Prop
  | [], [] => True
  | e :: es, (k, i) :: kvs => (e.hash = hashStr w k ∧ (∃ t, e.key = .str k t) ∧ ∃ t, e.val = .int i t) ∧ tabIs w es kvs
  | _, _ => False
noncomputable def tabV : List DictEntry → List (Str × Int) → List (Str × Value)
  | e :: es, (k, _) :: kvs => (k, e.val) :: tabV es kvs
  | _, _ => []
theorem isStrOf_self (k : Str) (t : Tok) : Value.isStrOf k (.str k t) = true := by
  show (k == k) = true
  exact beq_self_eq_true k
theorem tab_keys {w : World} : ∀ {es : List DictEntry} {kvs : List (Str × Int)}, tabIs w es kvs → (tabV es kvs).map (·.1) = kvs.map (·.1)
  | [], [], _ => rfl
  | e :: es, (k, i) :: kvs, h => congrArg (k :: ·) (tab_keys h.2)
theorem tab_pairs {P : Program} {w : World} : ∀ {es : List DictEntry} {kvs : List (Str × Int)}, tabIs w es kvs → Pairs (strKind P w) es (tabV es kvs)
  | [], [], _ => .nil
  | e :: es, (k, i) :: kvs, h => by
    obtain ⟨⟨_, ⟨t, hk⟩, _⟩, h2⟩ := h
    exact .cons (by rw [hk]; exact isStrOf_self k t) rfl (tab_pairs h2)
theorem tab_of {P : Program} {w : World} : ∀ {es : List DictEntry} {kvs : List (Str × Int)}, tabIs w es kvs → ∀ e ∈ es, ∃ k, (strKind P w).is k e.key = true ∧ e.hash = (strKind P w).hash k
  | [], [], _, e, h => by cases h
  | d :: es, (k, i) :: kvs, h, e, he => by
    rcases List.mem_cons.mp he with rfl | he
    · obtain ⟨⟨hh, ⟨t, hk⟩, _⟩, h2⟩ := h
      exact ⟨k, by rw [hk]; exact isStrOf_self k t, hh⟩
    · exact tab_of h.2 e he
theorem tab_val {w : World} (x : Str) : ∀ {es : List DictEntry} {kvs : List (Str × Int)}, tabIs w es kvs →
    match tabAt kvs x with
    | some i => ∃ t, valueAt (tabV es kvs) x = some (.int i t)
    | none => valueAt (tabV es kvs) x = none
  | [], [], _ => rfl
  | e :: es, (k, i) :: kvs, h => by
    obtain ⟨⟨_, _, ⟨t, hv⟩⟩, h2⟩ := h
    have ih := tab_val x h2
    unfold tabAt
    by_cases hk : k = x
    · rw [if_pos hk]
      refine ⟨t, ?_⟩
      show Option.map _ (List.find? _ ((k, e.val) :: tabV es kvs)) = _
      rw [List.find?_cons_of_pos (by simpa using hk)]
      show some e.val = _
      rw [hv]
    · rw [if_neg hk]
      have e1 : valueAt (tabV (e :: es) ((k, i) :: kvs)) x = valueAt (tabV es kvs) x := by
        show Option.map _ (List.find? _ ((k, e.val) :: tabV es kvs)) = _
        rw [List.find?_cons_of_neg (by simpa using hk)]
        rfl
      rw [e1]
      exact ih
/-- a global that is such a table -/
noncomputable def TabG (w : World) (K : PySem.W.Frag) (mg : Str → Option Value) (x : Str) (kvs : List (Str × Int)) : Prop :=
  ∃ a o es ep, mg x = some (.ref a) ∧ K.lookup a = some o ∧ o.ExactDict ∧ o.data = .dict es ep ∧ tabIs w es.toList kvs ∧ (a == sysModules) = false ∧ (kvs.map (·.1)).Nodup
theorem tab_dict {P : Program} {w : World} {K : PySem.W.Frag} {h : Heap} {a : Addr} {o : Obj} {es : Array DictEntry} {ep : Nat} {kvs : List (Str × Int)} (hk : h.get? a = some o) (he : o.ExactDict) (hd : o.data = .dict es ep)
    (ht : tabIs w es.toList kvs) (hn : (kvs.map (·.1)).Nodup) : Heap.DictOf (strKind P w) h a (tabV es.toList kvs) :=
  ⟨o, es, ep, hk, he, hd, fun e he => tab_of ht e (by simpa using he), tab_pairs ht, by rw [tab_keys ht]; exact hn⟩
noncomputable def ninT (kvs : List (Str × Int)) : D → D → Option M := fun x _ => match x with
  | .str s => some (.d (.bl (!(tabAt kvs s).isSome)))
  | _ => none
noncomputable def ixT (kvs : List (Str × Int)) : D → D → Option M := fun _ y => match y with
  | .str s => (tabAt kvs s).map fun i => .d (.int i)
  | _ => none
@[simp] theorem ninT_ap (kvs : List (Str × Int)) (s : Str) (y : D) : ninT kvs (.str s) y = some (.d (.bl (!(tabAt kvs s).isSome))) := (rfl)
@[simp] theorem ixT_ap (kvs : List (Str × Int)) (s : Str) (y : D) : ixT kvs y (.str s) = (tabAt kvs s).map fun i => .d (.int i) := (rfl)
section
variable {X : Cx} {e a b : Expr} {pos pos' : Pos} {x : Str} {kvs : List (Str × Int)}
theorem bin_rd1 {K : KG} {g : D → D → Option M} {fa : FE} {r : R2} {va : V} (hr : ∀ (H F : Hp) (v : V) (x : D) (m : M) (Q : VK), Le F H → View K H F v x → g x .non = some m → Wish K H F m Q → r v va H Q)
    {σ : St} {H : Hp} {Q : VK} (h : rdM K (mBin g fa (eC .non)) σ H Q) : tOp r (rdE K fa) (tC va) σ H Q := by
  obtain ⟨F, O, S, m, S', rp, hf, k⟩ := h
  obtain ⟨a, S1, h1, h2⟩ := R.bind_ok hf
  obtain ⟨b, S2, h3, h4⟩ := R.bind_ok h2
  obtain ⟨e4, x, y, ex, ey, eg⟩ := onD_ok h4
  subst e4
  cases h3
  have ey : some D.non = some y := ey
  cases ey
  refine ⟨F, O, S, a, S', rp, h1, fun v H1 F1 O1 st1 r1 ra => ?_⟩
  refine hr H1 F1 v x m Q r1.bs.fh (r1.view ra ex) eg (r1.wish fun w H3 F3 O3 st3 r3 rm => ?_)
  exact k w H3 F3 O3 (st1.trans st3) r3 rm
theorem bin_rd2 {K : KG} {g : D → D → Option M} {fb : FE} {r : R2} {va : V} (hr : ∀ (H F : Hp) (u : V) (y : D) (m : M) (Q : VK), Le F H → View K H F u y → g .non y = some m → Wish K H F m Q → r va u H Q)
    {σ : St} {H : Hp} {Q : VK} (h : rdM K (mBin g (eC .non) fb) σ H Q) : tOp r (tC va) (rdE K fb) σ H Q := by
  obtain ⟨F, O, S, m, S', rp, hf, k⟩ := h
  obtain ⟨a, S1, h1, h2⟩ := R.bind_ok hf
  obtain ⟨b, S2, h3, h4⟩ := R.bind_ok h2
  obtain ⟨e4, x, y, ex, ey, eg⟩ := onD_ok h4
  subst e4
  cases h1
  have ex : some D.non = some x := ex
  cases ex
  refine ⟨F, O, S, b, S', rp, h3, fun u H2 F2 O2 st2 r2 rb => ?_⟩
  refine hr H2 F2 u y m Q r2.bs.fh (r2.view rb ey) eg (r2.wish fun w H3 F3 O3 st3 r3 rm => ?_)
  exact k w H3 F3 O3 (st2.trans st3) r3 rm
noncomputable def rTab (va : V) (g : Str → Option V) : R2 := fun v u H Q => u = va ∧ ∃ s w, v = .str s ∧ g s = some w ∧ Q w H
theorem or_nin {a : Addr} (T : ∃ o es ep, X.K.lookup a = some o ∧ o.ExactDict ∧ o.data = .dict es ep ∧ tabIs X.w es.toList kvs ∧ (a == sysModules) = false ∧ (kvs.map (·.1)).Nodup) :
    OpR X (compareOp .NotIn) (rTab (.ref a) fun s => some (.bl (!(tabAt kvs s).isSome))) := by
  intro pins s σ H x y v u Q I rx ry ⟨e1, z, w, e2, e3, q⟩
  subst e1 e2
  cases e3
  obtain ⟨o, es, ep, hl, he, hd, ht, hs, hn⟩ := T
  obtain rfl : u = .ref a := ry
  obtain ⟨t, rfl⟩ : ∃ t, v = .str z t := rx
  have hg := (I.bs a o (I.ok.mod.kin a o hl)).1
  have hm := (tab_dict (P := X.prog) (K := X.K) hg he hd ht hn).mapOf
  have hv := tab_val z ht
  refine wpAny_notIn_of (knd := strKind X.prog X.w) (k := z) (isStrOf_self z t) hs hm ⟨_, H, I.tok _, ?_, q⟩
  cases ec : tabAt kvs z with
  | none =>
    rw [ec] at hv
    have hv : valueAt (tabV es.toList kvs) z = none := hv
    rw [hv]
    rfl
  | some i =>
    rw [ec] at hv
    obtain ⟨t', hv⟩ : ∃ t, valueAt (tabV es.toList kvs) z = some (.int i t) := hv
    rw [hv]
    rfl
noncomputable def rTab2 (va : V) (g : Str → Option V) : R2 := fun v u H Q => v = va ∧ ∃ s w, u = .str s ∧ g s = some w ∧ Q w H
theorem ixr_tab {a : Addr} (T : ∃ o es ep, X.K.lookup a = some o ∧ o.ExactDict ∧ o.data = .dict es ep ∧ tabIs X.w es.toList kvs ∧ (a == sysModules) = false ∧ (kvs.map (·.1)).Nodup) :
    IxR X (rTab2 (.ref a) fun s => (tabAt kvs s).map .int) := by
  intro value slice pins s σ H x y v u Q I rx ry ⟨e1, z, w, e2, e3, q⟩ hs'
  subst e1 e2
  obtain ⟨o, es, ep, hl, he, hd, ht, hs, hn⟩ := T
  obtain rfl : v = .ref a := rx
  obtain ⟨t, rfl⟩ : ∃ t, u = .str z t := ry
  have hg := (I.bs a o (I.ok.mod.kin a o hl)).1
  have dd := tab_dict (P := X.prog) (K := X.K) hg he hd ht hn
  have hm := dd.mapOf
  have hv := tab_val z ht
  have e3 : (tabAt kvs z).map V.int = some w := e3
  cases ec : tabAt kvs z with
  | none => rw [ec] at e3; cases e3
  | some i =>
    rw [ec] at hv e3
    cases e3
    obtain ⟨t', hv⟩ : ∃ t, valueAt (tabV es.toList kvs) z = some (.int i t) := hv
    refine tail_any (dd.typeIs (s := s)) PySem.slot_dict_getitem.lookup (wpAny_getItem_of (knd := strKind X.prog X.w) (k := z) (isStrOf_self z t) hm hv ⟨V.int i, H, I.tok _, ⟨t', rfl⟩, q⟩) hs'
theorem TabG.at (T : TabG X.w X.K X.mg x kvs) : ∃ a, X.mg x = some (.ref a) ∧ ∃ o es ep, X.K.lookup a = some o ∧ o.ExactDict ∧ o.data = .dict es ep ∧ tabIs X.w es.toList kvs ∧ (a == sysModules) = false ∧ (kvs.map (·.1)).Nodup := by
  obtain ⟨a, o, es, ep, h1, h2⟩ := T
  exact ⟨a, h1, o, es, ep, h2⟩
theorem ninT_str {v : D} {y : D} {m : M} (h : ninT kvs v y = some m) : ∃ s, v = .str s ∧ m = .d (.bl (!(tabAt kvs s).isSome)) := by
  unfold ninT at h
  cases v with
  | str s => cases h; exact ⟨s, rfl, rfl⟩
  | _ => cases h
theorem nin_rd {a : Addr} {fa : FE} {σ : St} {H : Hp} {Q : VK} (h : rdM (kg X) (mBin (ninT kvs) fa (eC .non)) σ H Q) : tOp (rTab (.ref a) fun s => some (.bl (!(tabAt kvs s).isSome))) (rdE (kg X) fa) (tC (.ref a)) σ H Q :=
  bin_rd1 (fun H F v x m Q l vx e w => by
    obtain ⟨s, rfl, rfl⟩ := ninT_str e
    exact ⟨rfl, s, _, vx.str, rfl, w.bl⟩) h
theorem dt_ninT {fa : FE} (hg : Gl X x) (T : TabG X.w X.K X.mg x kvs) (ha : DE X fa a) (hm : behindInMarks .NotIn (.Name x pos') = false := by with_unfolding_all rfl) (hd : (x == ("__debug__" : Str)) = false := by decide) :
    DT X (tM (mBin (ninT kvs) fa (eC .non))) (.Compare a [.NotIn] [.Name x pos'] pos) := by
  obtain ⟨a, hx, T⟩ := T.at
  refine PT.imp (pt_cmpR (or_nin T) ha (pe_glob (v := .ref a) hg hx rfl hd) hm) fun σ H Q h => ?_
  obtain ⟨F, O, S, c, S', rp, hf, k⟩ := h
  obtain ⟨m, S1, h1, h2⟩ := R.bind_ok hf
  obtain ⟨em, eS⟩ := asB_ok h2
  subst em eS
  refine nin_rd ⟨F, O, S, _, S', rp, h1, fun v H' F' O' st r' rm => ⟨c, ?_, k H' F' O' st r'⟩⟩
  cases (show RepD (kg X) F' v (.bl c) from rm)
  rfl
theorem dm_ixT {fb : FE} (hg : Gl X x) (T : TabG X.w X.K X.mg x kvs) (hb : DE X fb b) (hs : PlainIx b := by exact fun _ _ => rfl) (hd : (x == ("__debug__" : Str)) = false := by decide) :
    DM X (mBin (ixT kvs) (eC .non) fb) (.Subscript (.Name x pos') b pos) := by
  obtain ⟨a, hx, T⟩ := T.at
  refine PE.imp (pe_ix (ixr_tab T) (pe_glob (v := .ref a) hg hx rfl hd) hb hs) fun σ H Q h => bin_rd2 (fun H F u y m Q l vy e w => ?_) h
  unfold ixT at e
  cases y with
  | str s =>
    have e : (tabAt kvs s).map (fun i => M.d (.int i)) = some m := e
    cases ec : tabAt kvs s with
    | none => rw [ec] at e; cases e
    | some i =>
      rw [ec] at e
      cases e
      exact ⟨rfl, s, .int i, vy.str, by dsimp only; rw [ec]; rfl, w.int⟩
  | _ => cases e
end

theorem loopK {prog : Program} {w : World} {A : Around} {R : Result → Shared → Prop} {K : Type} [DecidableEq K] {knd : PySem.KeyKind prog w K} {I : Addr} {fp wr : List Addr} {G : Array GenState → Array GenState → Prop} {n : Nat}
    {P : Nat → Value → Prop} {St : Nat → Shared → Prop} (W : WalksS prog w A.in1 I fp wr G n P St) (S : Addr) (hSf : S ∉ fp) (xs : List K) (hn : xs.length = n) (hval : ∀ i v, P i v → ∃ k, xs[i]? = some k ∧ knd.is k v = true ∧ v.scannable = true)
    (hb : n + 1 < scanBound) (T : Nat → K → Bool) (N : Nat → Nat) (hT : ∀ i k, xs[i]? = some k → (∀ k', (T i k' || decide (k' = k)) = T (i + 1) k') ∧ (if T i k = true then N i else N i + 1) = N (i + 1)) (hN : ∀ i, i ≤ n → N i ≤ i) :
    ∀ (k i : Nat) (s : Shared), n - i = k → i ≤ n → St i s → Heap.SetOf knd s.heap S (T i) (N i) →
      (∀ s', Moved (S :: wr) G s s' → Heap.SetOf knd s'.heap S (T n) (N n) → R (.ok (.ret .none)) s') →
      codeAny (model prog w) A (.builtin "set.update.loop" { pos := [.ref S, .ref I] }) R s := by
  have hSw : S ∉ wr := fun h => hSf (W.sub S h)
  have hsub : ∀ b, b ∈ wr → b ∈ S :: wr := fun b hb => List.mem_cons_of_mem S hb
  intro k
  induction k with
  | zero =>
    intro i s hk hi hst hS hR
    have hin : i = n := by omega
    subst hin
    refine codeAny_builtin F.entry_set_update_loop ?_
    rw [Around.under_plainId F.plain_set_update_loop { pos := [Value.ref S, Value.ref I] }]
    refine wpAny_bind (W.done s _ _ hst fun s' hm => wpAny_pure (hR s' (Moved.mono hm hsub) ?_))
    obtain ⟨o, es, ep, t, ho, rest⟩ := hS
    exact ⟨o, es, ep, t, hm.heap S o hSw ho, rest⟩
  | succ k ih =>
    intro i s hk hi hst hS hR
    have hlt : i < n := by omega
    refine codeAny_builtin F.entry_set_update_loop ?_
    rw [Around.under_plainId F.plain_set_update_loop { pos := [Value.ref S, Value.ref I] }]
    refine wpAny_bind (W.item i s _ _ hlt hst fun v s' hP hst' hm => ?_)
    obtain ⟨x, hx, hxv, hsc⟩ := hval i v hP
    obtain ⟨hT1, hT2⟩ := hT i x hx
    have hS' : Heap.SetOf knd s'.heap S (T i) (N i) := by
      obtain ⟨o, es, ep, t, ho, rest⟩ := hS
      exact ⟨o, es, ep, t, hm.heap S o hSw ho, rest⟩
    have hni := hN i (by omega)
    refine wpAny_bind (wpAny_holding (wpAny_holding (wpAny_bind (knd.pyHash hxv ?_))))
    refine wpAny_setAddHashed_of hxv hsc hS' (by omega) fun h' hsb hS2 => ?_
    have hSi := SetOf_congr hS2 hT1 hT2
    refine wpAny_pure ⟨plainId_quiet F.plain_set_update_loop { pos := [Value.ref S, Value.ref I] }, ?_⟩
    refine ih (i + 1) _ (by omega) hlt (W.frame (i + 1) s' h' _ hst' (Nat.le_succ s'.toks) fun b hb o e => ?_) hSi fun s'' hm'' hS'' => hR s'' (Moved.trans W.gtrans (Moved.then_heap (Moved.mono hm hsub) (Nat.le_succ s'.toks) fun b o hb e => ?_) hm'') hS''
    · rw [hsb.right b fun h => hSf (h ▸ hb)]
      exact e
    · rw [hsb.right b fun h => hb (h ▸ List.mem_cons_self)]
      exact e
noncomputable def stK {K : Type} [DecidableEq K] (σ : List K) (k : K) : List K := if k ∈ σ then σ else σ ++ [k]
noncomputable def ddl {K : Type} [DecidableEq K] (xs : List K) : List K := xs.foldl stK []
theorem ddl_snoc {K : Type} [DecidableEq K] (xs : List K) (k : K) : ddl (xs ++ [k]) = stK (ddl xs) k := by
  unfold ddl
  rw [List.foldl_append]
  rfl
theorem ddl_take {K : Type} [DecidableEq K] {xs : List K} {i : Nat} {k : K} (h : xs[i]? = some k) : ddl (xs.take (i + 1)) = stK (ddl (xs.take i)) k := by
  rw [List.take_add_one, h]
  exact ddl_snoc _ _
theorem ddl_len {K : Type} [DecidableEq K] (xs : List K) : (ddl xs).length ≤ xs.length := by
  have : ∀ (xs σ : List K), (xs.foldl stK σ).length ≤ σ.length + xs.length := by
    intro xs
    induction xs with
    | nil => intro σ; exact Nat.le_refl _
    | cons x xs ih =>
      intro σ
      have h := ih (stK σ x)
      have h2 : (stK σ x).length ≤ σ.length + 1 := by
        unfold stK
        split
        · omega
        · rw [List.length_append]; exact Nat.le_refl _
      rw [List.foldl_cons, List.length_cons]
      omega
  have h := this xs []
  have e : ([] : List K).length + xs.length = xs.length := Nat.zero_add _
  rw [e] at h
  exact h
theorem call_setK {prog : Program} {w : World} {A : Around} {E : Value → Shared → Prop} {K : Type} [DecidableEq K] {knd : PySem.KeyKind prog w K} {s : Shared} {l : Addr} {items : Array Value} {xs : List K} {Q : Value → Shared → Prop}
    (hh : A.handled = none) (hl : s.heap.IsList l items) (hn : xs.length = items.size) (hi : ∀ (i : Nat) (v : Value), items[i]? = some v → ∃ k, xs[i]? = some k ∧ knd.is k v = true ∧ v.scannable = true) (hb : items.size + 1 < scanBound)
    (hQ : ∀ (h' : Heap) (tk : Nat), Heap.SetOf knd h' s.heap.objs.size (fun k => decide (k ∈ ddl xs)) (ddl xs).length → (∀ (b : Nat) (o : Obj), b < s.heap.objs.size → s.heap.get? b = some o → h'.get? b = some o) →
      Q (.ref s.heap.objs.size) { heap := h', gens := s.gens, drawn := s.drawn, toks := tk, os := s.os }) : wpAny (model prog w) A (call (.type "set") [.ref l]) Q E s := by
  obtain ⟨c, tl, hmro⟩ := F.called_set.mro
  have hmade := F.called_set.made
  have hsub := F.called_set.sub
  refine wpAny_call (codeAny_of_tree ?_)
  refine wpAny_pure ⟨Code.quiet_builtin _ (by decide +kernel), codeAny_builtin F.entry_type_call ?_⟩
  rw [Around.under_plain (weight_type_call_type "set" [Value.ref l] []) rfl]
  have h1 := F.called_set.notType
  have h2 := F.called_set.canCreate
  have hct := F.typeCall_set_1 (Value.ref l)
  unfold Builtin.«type.__call__»
  dsimp only
  refine wpAny_ite_false (decide_eq_false (by rw [h1]; decide)) (wpAny_ite_false (decide_eq_false (by rw [h2]; decide)) ?_)
  refine wpAny_bind (wpAny_of_eq hct (wpAny_bind (wpAny_of_eq hmro (wpAny_ite_false rfl (wpAny_bind (wpAny_of_eq hmade (wpAny_bind (wpAny_pure (wpAny_bind (wpAny_holding (wpAny_call ?_)))))))))))
  refine codeAny_mono (code_set_new_1 (E := E) (Q₁ := fun v s1 => v = .ref s.heap.objs.size ∧ ∃ led, s1 = { heap := s.heap.push { cls := Value.type "set", data := Data.set #[] 0 (SetTable.fresh 0 0 led) }, gens := s.gens, drawn := s.drawn, toks := s.toks, os := s.os }) (.ref l) fun led => ⟨rfl, led, rfl⟩) fun r s1 hr => ?_
  match r, hr with
  | .error e, hr => exact hr
  | .ok (.ret v), hr =>
    obtain ⟨rfl, led, rfl⟩ := hr
    dsimp only
    have hS := Heap.get?_push_size s.heap (o := { cls := Value.type "set", data := Data.set #[] 0 (SetTable.fresh 0 0 led) }) rfl
    have hT : Shared.TypeIs { heap := s.heap.push { cls := Value.type "set", data := Data.set #[] 0 (SetTable.fresh 0 0 led) }, gens := s.gens, drawn := s.drawn, toks := s.toks, os := s.os } (.ref s.heap.objs.size) "set" := ⟨_, hS, rfl⟩
    have hli := F.called_set.init.lookup
    have hbi := F.called_set.init.bind (.ref s.heap.objs.size)
    refine wpAny_bind (wpAny_isInstance hT hsub (wpAny_ite_false rfl (wpAny_bind (wpAny_holding (wpAny_bind (wpAny_specialOf hT hli (wpAny_holding (wpAny_bind (wpAny_of_eq hbi (wpAny_bind (wpAny_call ?_)))))))))))
    refine codeAny_mono (R := wants (fun r s2 => r = .none ∧ Q (.ref s.heap.objs.size) s2) E) (codeAny_call_builtin F.called_set.init.plain F.entry_set_init (check_set_init_1 hT ?_)) fun r s2 hr => ?_
    · unfold Builtin.«set.__init__»
      refine wpAny_bind (wpAny_of_eq (a := ()) rfl ?_)
      dsimp only [List.cons_append, List.nil_append]
      refine wpAny_bind (wpAny_bind (wpAny_bind (wpAny_typeOf hT ?_)))
      dsimp only
      refine wpAny_ite_false rfl (wpAny_pure (wpAny_of_eq (a := "set") rfl (wpAny_bind (wpAny_of_eq (a := ()) rfl (wpAny_bind (wpAny_pure (wpAny_bind ?_)))))))
      refine wpAny_bind (wpAny_bind (wpAny_load' hS ?_))
      dsimp only
      refine wpAny_ite_false rfl (wpAny_pure (wpAny_pure (wpAny_ite_false rfl (wpAny_bind ?_))))
      unfold Builtin.Frozenset.updateFrom
      have hl1 := hl.push { cls := Value.type "set", data := Data.set #[] 0 (SetTable.fresh 0 0 led) }
      have hTl : Shared.TypeIs { heap := s.heap.push { cls := Value.type "set", data := Data.set #[] 0 (SetTable.fresh 0 0 led) }, gens := s.gens, drawn := s.drawn, toks := s.toks, os := s.os } (.ref l) "list" := by
        obtain ⟨o, ho, hc, _⟩ := hl1
        exact ⟨o, ho, hc⟩
      refine wpAny_bind ?_
      unfold Builtin.Frozenset.isAnySet orM
      refine wpAny_bind (wpAny_isInstance hTl F.sub_list_set ?_)
      refine wpAny_isInstance hTl F.sub_list_frozenset ?_
      refine wpAny_ite_false rfl (wpAny_bind (wpAny_typeOf hTl (wpAny_ite_false rfl (wpAny_bind (wpAny_pyIter_list hl1 (wpAny_bind (wpAny_runValue ?_)))))))
      have hll : l < s.heap.objs.size := by
        obtain ⟨o, ho, _⟩ := hl
        exact Heap.lt_size ho
      have sz1 : (s.heap.push { cls := Value.type "set", data := Data.set #[] 0 (SetTable.fresh 0 0 led) }).objs.size = s.heap.objs.size + 1 := Heap.size_push ..
      have hx : ∀ i, i ≤ items.size → (ddl (xs.take i)).length ≤ i := fun i hi => Nat.le_trans (ddl_len _) (by rw [List.length_take]; omega)
      have e1 : xs.take items.size = xs := by rw [← hn]; exact List.take_length
      refine loopK (knd := knd) (Walks.list (prog := prog) (w := w) (A := A.in1.in1.in1) hh _ l (by show l ≠ (s.heap.push _).objs.size; rw [sz1]; exact Nat.ne_of_lt (Nat.lt_succ_of_lt hll)) items).toS s.heap.objs.size ?_ xs hn hi hb (fun i k => decide (k ∈ ddl (xs.take i))) (fun i => (ddl (xs.take i)).length) ?_ hx items.size 0 _ rfl (Nat.zero_le _) ?_ ?_ ?_
      · show ¬ s.heap.objs.size ∈ [(s.heap.push _).objs.size, l]
        rw [sz1]
        intro h
        rcases List.mem_cons.mp h with h | h
        · exact Nat.ne_of_lt (Nat.lt_succ_self _) h
        · exact Nat.ne_of_gt hll (List.mem_singleton.mp h)
      · intro i k hk
        rw [ddl_take hk]
        unfold stK
        by_cases h : k ∈ ddl (xs.take i)
        · simp only [if_pos h, decide_eq_true h, if_true, and_true]
          intro k'
          by_cases e : k' = k
          · subst e; simp [h]
          · simp [e]
        · simp only [if_neg h, decide_eq_false h, Bool.false_eq_true, if_false, List.length_append, List.length_singleton, and_true]
          intro k'
          simp
      · refine ⟨?_, hl1.push _⟩
        exact ⟨_, Heap.get?_push_size _ rfl, rfl, rfl⟩
      · have hf := setObjOf_fresh (knd := knd) led
        have hg := Heap.get?_push_of_some { cls := Value.type "list_iterator", data := Data.fields #[Value.ref l, Value.int 0 0] } hS
        have := hf.setOf hg (by unfold scanBound; decide)
        exact this
      · intro s' hm hS'
        obtain ⟨h', g', d', t', o'⟩ := s'
        obtain ⟨m1, m2, m3, m4, m5⟩ := hm
        cases m2
        cases m3
        cases m4
        have hS' : Heap.SetOf knd h' s.heap.objs.size (fun k => decide (k ∈ ddl (xs.take items.size))) (ddl (xs.take items.size)).length := hS'
        rw [e1] at hS'
        refine wpAny_pure (wpAny_pure ⟨rfl, hQ h' t' hS' fun b o hb hg => m1 b o ?_ ?_⟩)
        · show ¬ b ∈ [s.heap.objs.size, (s.heap.push _).objs.size]
          rw [sz1]
          intro h
          rcases List.mem_cons.mp h with h | h
          · exact Nat.ne_of_lt hb h
          · exact Nat.ne_of_lt (Nat.lt_succ_of_lt hb) (List.mem_singleton.mp h)
        · exact Heap.get?_push_of_some _ (Heap.get?_push_of_some _ hg)
    · match r, hr with
      | .error e, hr => exact hr
      | .ok (.ret v), hr =>
        obtain ⟨rfl, hq⟩ := hr
        exact wpAny_pure (wpAny_ite_false rfl (wpAny_pure hq))
/-- len(set(a list of texts)) -/
noncomputable def tLenK (K : PySem.W.Frag) (ta : TE) : TE := fun σ H Q => ta σ H fun x H1 => ∃ l xs, x = V.ref l ∧ SqL K H1 l (xs.map V.str) ∧ xs.length ≤ 4000 ∧ Q (.int (ddl xs).length) H1
theorem strs_at {xs : List Str} {us : List Value} (h : Vals (xs.map V.str) us) : ∀ (i : Nat) (v : Value), us[i]? = some v → ∃ k, xs[i]? = some k ∧ Value.isStrOf k v = true ∧ v.scannable = true := by
  induction xs generalizing us with
  | nil =>
    cases h
    intro i v e
    cases i <;> cases e
  | cons x xs ih =>
    cases h with
    | cons r rs =>
      obtain ⟨t, rfl⟩ := r
      intro i v e
      cases i with
      | zero => cases e; exact ⟨x, rfl, isStrOf_self x t, rfl⟩
      | succ i => exact ih rs i v e
section
variable {X : Cx} {a : Expr} {p p2 q pos : Pos}
theorem pe_lenK {ta : TE} (hc : X.calm = true) (hg : Gl X "len") (hm : X.mg "len" = none) (hg2 : Gl X "set") (hm2 : X.mg "set" = none) (ha : PE X a ta) (na : starEach [a] X.env = (false, eval a X.env) :: starEach [] X.env := by rfl) :
    PE X (.Call (.Name "len" p) [.Call (.Name "set" p2) [a] [] q] [] pos) (tLenK X.K ta) where
  run := fun pins s σ H Q I h =>
    Call_ (ld_blt I hg hm boot_len (PyProof.Rows.callWith_builtin1 (args_cons (Call_ (ld_blt I hg2 hm2 boot_set (PyProof.Rows.callWith_type1 (args_cons (thn (ha.run pins s σ H _ I h)
      fun v s1 ⟨x, H1, I1, r1, l, xs, e, hq, h1, q1⟩ => args_nil (by
        subst e
        obtain rfl : v = .ref l := r1
        obtain ⟨its, r, pl, hz⟩ := Inv.list I1 hq
        have hl : its.length = xs.length := by rw [← Vals.length r, List.length_map]
        have hls : its.toArray.size = xs.length := by rw [List.size_toArray]; exact hl
        refine call_setK (knd := strKind X.prog X.w) (xs := xs) (I1.ok.hd hc) (PlainL.isList pl) hls.symm (fun i v e => strs_at r i v (by simpa using e)) (by rw [hls]; unfold scanBound; omega) fun h' tk hS hk => args_nil ?_
        obtain ⟨o, es, ep, t, ho, hex, hd, _, _, _, hf, hn⟩ := hS
        have I2 := Inv.kept I1 (h' := h') (t' := tk) fun b o e => hk b o (Heap.lt_size e) e
        have hlen := ddl_len xs
        refine call_len_set ho hex hd hf (by rw [hn]; omega) ⟨.int (ddl xs).length, H1, Inv.tok I2 _, ⟨_, by rw [hn]⟩, q1⟩))
      na) na rfl) (by decide) (by decide)) rfl) rfl) rfl rfl) (by decide) (by decide)) rfl
noncomputable def lenSet (d : D) : Option Int := match d with
  | .lst ds => (match asStrs ds with
    | some xs => if xs.length ≤ 4000 then some ((ddl xs).length : Int) else none
    | none => none)
  | _ => none
noncomputable def mLenSet (fe : FE) : FM := fun S => (fe S).bind fun o S1 => match o.get S1 with
  | some d => (match lenSet d with
    | some i => .ok (.d (.int i)) S1
    | none => .no)
  | none => .no
theorem dm_lenSet {fe : FE} (hc : X.calm = true) (hg : Gl X "len") (hm : X.mg "len" = none) (hg2 : Gl X "set") (hm2 : X.mg "set" = none) (ha : DE X fe a) (na : starEach [a] X.env = (false, eval a X.env) :: starEach [] X.env := by rfl) :
    DM X (mLenSet fe) (.Call (.Name "len" p) [.Call (.Name "set" p2) [a] [] q] [] pos) :=
  PE.imp (pe_lenK hc hg hm hg2 hm2 ha na) fun σ H Q h => by
    obtain ⟨F, O, S, m, S', rp, hf, k⟩ := h
    obtain ⟨o, S1, h1, h2⟩ := R.bind_ok hf
    refine ⟨F, O, S, o, S1, rp, h1, fun v H1 F1 O1 st1 r1 ra => ?_⟩
    cases eo : o.get S1 with
    | none => rw [eo] at h2; cases h2
    | some d =>
      rw [eo] at h2
      dsimp only at h2
      unfold lenSet at h2
      cases d with
      | lst ds =>
        dsimp only at h2
        cases es : asStrs ds with
        | none => rw [es] at h2; cases h2
        | some xs =>
          rw [es] at h2
          dsimp only at h2
          by_cases hl : xs.length ≤ 4000
          · rw [if_pos hl] at h2
            cases h2
            obtain ⟨l, vs, rfl, hr, rr⟩ := (r1.view ra eo).list r1.bs.fh
            obtain rfl := asStrs_ok es rr
            exact ⟨l, xs, rfl, .inl hr, hl, k _ H1 F1 O1 st1 r1 (.int _)⟩
          · rw [if_neg hl] at h2; cases h2
      | _ => cases h2
end
@[simp] theorem mLenSet_ap (fe : FE) (S : SS) : mLenSet fe S = (fe S).bind fun o S1 => match o.get S1 with
  | some d => (match lenSet d with
    | some i => .ok (.d (.int i)) S1
    | none => .no)
  | none => .no := (rfl)
theorem lenSet_strs (xs : List Str) (h : xs.length ≤ 4000) : lenSet (.lst (xs.map .str)) = some ((ddl xs).length : Int) := by
  unfold lenSet
  dsimp only
  rw [asStrs_map]
  dsimp only
  rw [if_pos h]
theorem ddl_nodup {K : Type} [DecidableEq K] {xs : List K} (h : xs.Nodup) : ddl xs = xs := by
  have : ∀ (xs σ : List K), (σ ++ xs).Nodup → xs.foldl stK σ = σ ++ xs := by
    intro xs
    induction xs with
    | nil => intro σ _; simp
    | cons x xs ih =>
      intro σ hn
      have hx : x ∉ σ := by
        intro hx
        rw [List.nodup_append] at hn
        exact hn.2.2 x hx x (List.mem_cons_self ..) rfl
      rw [List.foldl_cons]
      have e : stK σ x = σ ++ [x] := by unfold stK; rw [if_neg hx]
      rw [e, ih _ (by simpa using hn)]
      simp
  have h2 := this xs [] (by simpa using h)
  simpa [ddl] using h2

section
variable {X : Cx} {e : Expr} {p pos kpos cpos : Pos} {kj : Nat}
end
section
variable {X : Cx} {a b c : Expr} {pos : Pos} {K : KG} {F : Hp}
end
/-- the text of an entry -/
noncomputable def keyS (e : Int × Value) : Str := match e.2 with
  | .str k _ => k
  | _ => Str.empty
/-- an entry that is a text at its hash -/
noncomputable def TxE (w : World) (e : Int × Value) : Prop := ∃ k tk, e = (hashStr w k, Value.str k tk)
/-- the set at a holds just these texts, and its order can be followed -/
noncomputable def SetX (w : World) (h : Heap) (a : Addr) (xs : List Str) : Prop :=
  ∃ o es ep t, (h.get? a = some o ∧ o.ExactSet ∧ o.data = .set es ep t) ∧ ((∀ e ∈ es.toList, TxE w e) ∧ (es.toList.map keyS).Perm xs) ∧ xs.Nodup ∧ xs.length < scanBound ∧
    (t.fits es.size = true ∧ Ris t.place.toList ∧ (w.params.followText "set-order" = true ∨ t.led = true))
section
variable {P : Program} {w : World} {A : Around} {E : Value → Shared → Prop} {s : Shared} {a : Addr} {xs : List Str}
end
section
variable {P : Program} {w : World} {A : Around} {E : Value → Shared → Prop} {s : Shared} {a : Addr} {xs : List Str}
end
section
variable {X : Cx} {a : Expr} {p p2 q pos : Pos}
end
/-! ### the parts of an owned thing -/
mutual
/-- from one place to another, with what is below it -/
theorem RepM.rel {K : KG} {H F H' F' : Hp} {O O' : OW} {z z' : Rt} {p0 p1 : List Nat} (ff : Le F F') (k : ∀ a o s, O a = some (z, p0 ++ s) → H a = some o → H' a = some o ∧ O' a = some (z', p1 ++ s)) : ∀ {m : M} {s : List Nat} {v : V}, RepM K H F O (z, p0 ++ s) v m → RepM K H' F' O' (z', p1 ++ s) v m
  | .d x, s, v, h => RepD.mono ff h
  | .lst ds, s, v, h => by
    obtain ⟨a, vs, e, ho, hh, r⟩ := h
    obtain ⟨k1, k2⟩ := k a _ s ho hh
    exact ⟨a, vs, e, k2, k1, r.mono ff⟩
  | .dk kd, s, v, h => by
    obtain ⟨a, ks, vs, ds, e, ho, hh, el, r, ek⟩ := h
    obtain ⟨k1, k2⟩ := k a _ s ho hh
    exact ⟨a, ks, vs, ds, e, k2, k1, el, r.mono ff, ek⟩
  | .dt kd, s, v, h => by
    obtain ⟨a, ks, vs, ds, e, ho, hh, el, r, ek⟩ := h
    obtain ⟨k1, k2⟩ := k a _ s ho hh
    exact ⟨a, ks, vs, ds, e, k2, k1, el, r.mono ff, ek⟩
  | .seq ms, s, v, h => by
    obtain ⟨a, vs, e, ho, hh, r⟩ := h
    obtain ⟨k1, k2⟩ := k a _ s ho hh
    exact ⟨a, vs, e, k2, k1, RepMs.rel ff k r⟩
  | .box ms, s, v, h => by
    obtain ⟨a, vs, e, ht, r⟩ := h
    exact ⟨a, vs, e, ff _ _ ht, RepMs.rel ff k r⟩
  | .ob c ns ms, s, v, h => by
    obtain ⟨a, C, dx, vs, e, ho, hc, hh, el, r⟩ := h
    obtain ⟨k1, k2⟩ := k a _ s ho hh
    exact ⟨a, C, dx, vs, e, k2, hc, k1, el, RepMs.rel ff k r⟩
  | .exn x, s, v, h => by
    obtain ⟨a, cls, d, e1, e2, r⟩ := h
    exact ⟨a, cls, d, e1, e2, r.mono ff⟩
theorem RepMs.rel {K : KG} {H F H' F' : Hp} {O O' : OW} {z z' : Rt} {p0 p1 : List Nat} (ff : Le F F') (k : ∀ a o s, O a = some (z, p0 ++ s) → H a = some o → H' a = some o ∧ O' a = some (z', p1 ++ s)) : ∀ {ms : List M} {s : List Nat} {n : Nat} {vs : List V}, RepMs K H F O (z, p0 ++ s) n vs ms → RepMs K H' F' O' (z', p1 ++ s) n vs ms
  | [], s, n, vs, h => h
  | m :: ms, s, n, vs, h => by
    obtain ⟨v, vs', e, h1, h2⟩ := h
    refine ⟨v, vs', e, ?_, RepMs.rel ff k h2⟩
    have h1 : RepM K H F O (z, p0 ++ s ++ [n]) v m := h1
    show RepM K H' F' O' (z', p1 ++ s ++ [n]) v m
    rw [List.append_assoc] at h1 ⊢
    exact RepM.rel ff k h1
end
theorem RepMs.get {K : KG} {H F : Hp} {O : OW} {q : Pl} : ∀ {ms : List M} {n k : Nat} {vs : List V} {m : M}, RepMs K H F O q n vs ms → ms[k]? = some m → ∃ v, vs[k]? = some v ∧ RepM K H F O (q.1, q.2 ++ [n + k]) v m
  | [], n, k, vs, m, h, e => by simp at e
  | x :: ms, n, 0, vs, m, h, e => by
    obtain ⟨v, vs', ev, h1, h2⟩ := h
    simp only [List.getElem?_cons_zero, Option.some.injEq] at e
    subst e ev
    exact ⟨v, rfl, h1⟩
  | x :: ms, n, k + 1, vs, m, h, e => by
    obtain ⟨v, vs', ev, h1, h2⟩ := h
    subst ev
    obtain ⟨u, e1, e2⟩ := RepMs.get (k := k) h2 (by simpa using e)
    refine ⟨u, by simpa using e1, ?_⟩
    have z : n + 1 + k = n + (k + 1) := by omega
    rw [z] at e2
    exact e2
/-- one part changed, the others kept -/
theorem RepMs.put {K : KG} {H F H' F' : Hp} {O O' : OW} {q q' : Pl} {v' : V} {m' : M} : ∀ {ms : List M} {n k : Nat} {vs : List V}, (∀ i v m, i ≠ n + k → RepM K H F O (q.1, q.2 ++ [i]) v m → RepM K H' F' O' (q'.1, q'.2 ++ [i]) v m) → RepM K H' F' O' (q'.1, q'.2 ++ [n + k]) v' m' → RepMs K H F O q n vs ms →
    RepMs K H' F' O' q' n (vs.set k v') (ms.set k m')
  | [], n, k, vs, keep, hm, h => by
    rw [show vs = [] from h]
    cases k <;> rfl
  | x :: ms, n, 0, vs, keep, hm, h => by
    obtain ⟨v, vs', ev, h1, h2⟩ := h
    subst ev
    refine ⟨v', vs', rfl, hm, ?_⟩
    have : ∀ {ms : List M} {j : Nat} {vs : List V}, n < j → RepMs K H F O q j vs ms → RepMs K H' F' O' q' j vs ms := by
      intro ms
      induction ms with
      | nil => exact fun {j vs} _ h => h
      | cons y ys ih =>
        rintro j vs hj ⟨v, vs', e, h1, h2⟩
        exact ⟨v, vs', e, keep _ _ _ (by omega) h1, ih (by omega) h2⟩
    exact this (Nat.lt_succ_self _) h2
  | x :: ms, n, k + 1, vs, keep, hm, h => by
    obtain ⟨v, vs', ev, h1, h2⟩ := h
    subst ev
    refine ⟨v, vs'.set k v', rfl, keep _ _ _ (by omega) h1, ?_⟩
    have z : n + 1 + k = n + (k + 1) := by omega
    exact RepMs.put (n := n + 1) (k := k) (fun i v m hi => keep i v m (by rw [← z]; exact hi)) (by rw [z]; exact hm) h2
theorem RepMs.all {K : KG} {H F H' F' : Hp} {O O' : OW} {q q' : Pl} : ∀ {ms : List M} {n : Nat} {vs : List V}, (∀ i v m, RepM K H F O (q.1, q.2 ++ [i]) v m → RepM K H' F' O' (q'.1, q'.2 ++ [i]) v m) → RepMs K H F O q n vs ms → RepMs K H' F' O' q' n vs ms
  | [], n, vs, keep, h => h
  | x :: ms, n, vs, keep, h => by
    obtain ⟨v, vs', ev, h1, h2⟩ := h
    exact ⟨v, vs', ev, keep _ _ _ h1, RepMs.all keep h2⟩
section
variable {K : KG} {H F : Hp} {O : OW} {σ : St} {S : SS} {j k : Nat} {m0 m : M}
end

/-! ### a slot hidden while something else is reckoned -/
section
variable {K : KG} {H F H2 F2 : Hp} {O O2 : OW} {σ : St} {S S2 : SS} {j k : Nat} {m0 m : M} {v0 v : V}
end

/-! ### a part as a receiver -/
/-- what of the text a class with a field must have -/
noncomputable def ClF (K : KG) (c f : Str) : Prop := ∀ C, K.cl c = some C → Cls K.k C ∧ NoAttr K.k C f
theorem lookup_at {α : Type} {f : Str} : ∀ {ns : List Str} {vs : List α} {k : Nat} {v : α}, ns.findIdx? (fun x => x == f) = some k → vs[k]? = some v → (ns.zip vs).lookup f = some v
  | [], vs, k, v, h, e => by simp at h
  | n :: ns, [], k, v, h, e => by simp at e
  | n :: ns, u :: vs, k, v, h, e => by
    rw [List.findIdx?_cons] at h
    rw [List.zip_cons_cons, List.lookup_cons]
    by_cases c : n = f
    · subst c
      simp only [beq_self_eq_true, if_true, Option.some.injEq] at h
      subst h
      simp only [beq_self_eq_true]
      simpa using e
    · have c1 : (n == f) = false := beq_eq_false_iff_ne.mpr c
      have c2 : (f == n) = false := beq_eq_false_iff_ne.mpr (Ne.symm c)
      rw [c1] at h
      simp only [Bool.false_eq_true, if_false, Option.map_eq_some_iff] at h
      obtain ⟨k', h1, h2⟩ := h
      subst h2
      rw [c2]
      exact lookup_at h1 (by simpa using e)
section
variable {X : Cx} {o b e : Expr} {pos : Pos} {j : Nat}
end

section
variable {K : KG} {H F H2 F2 : Hp} {O O2 : OW} {σ : St} {S S2 : SS} {j k : Nat} {m0 m : M} {v0 v : V}
end
section
variable {X : Cx} {o b e : Expr} {pos : Pos} {j : Nat} {ci : M → Option Nat} {apos cpos : Pos} {f : FE}
end

/-! ### a look that changes nothing -/
section
variable {K : KG} {H F H2 F2 : Hp} {O O2 : OW} {σ : St} {S S2 : SS}
/-- all is as it was behind a look -/
theorem Rp.back (r : Rp K H F O σ S) {F1 : Hp} (st : Stp H F1 (fun _ => none) H2 F2 O2) : Stp H F O H2 F O ∧ Rp K H2 F O σ S := by
  have kp : ∀ a o, H a = some o → H2 a = some o := fun a o e => st.kp a o e rfl
  refine ⟨⟨Le.refl _, fun a o e _ => kp a o e, fun a q e => .inl ⟨q, e⟩, fun a o e => .inl e, fun a o e => ⟨o, kp a o e⟩⟩, ⟨fun a o e => kp a o (r.bs.fh a o e), fun a q e => ?_⟩, r.len, fun i m e => ?_⟩
  · obtain ⟨h1, o, h2⟩ := r.bs.fo a q e
    exact ⟨h1, o, kp a o h2⟩
  · obtain ⟨v, hv, rm⟩ := r.sl i m e
    exact ⟨v, hv, rm.stay (Le.refl _) fun a o p e1 e2 => ⟨kp a o e2, e1⟩⟩
end
section
variable {X : Cx} {e : Expr}
end

/-! ### displays of owned things -/
noncomputable def noR (O : OW) : OW := fun a => match O a with
  | some (.s i, p) => some (.s i, p)
  | _ => none
section
variable {K : KG} {H F H2 F2 : Hp} {O O2 : OW} {σ : St} {S S2 : SS} {n : Nat}
theorem noR_some {a : Addr} {q : Pl} (h : noR O a = some q) : O a = some q ∧ ∀ p, O a ≠ some (.r, p) := by
  unfold noR at h
  split at h
  · rename_i i p e; cases h; exact ⟨e, fun p z => by rw [e] at z; cases z⟩
  · cases h
theorem noR_keep {a : Addr} {i : Nat} {p : List Nat} (h : O a = some (.s i, p)) : noR O a = some (.s i, p) := by
  unfold noR
  rw [h]
theorem Rp.noR (r : Rp K H F O σ S) : Rp K H F (Ev.noR O) σ S :=
  ⟨⟨r.bs.fh, fun a q e => r.bs.fo a q (noR_some e).1⟩, r.len, fun i x e => by
    obtain ⟨w, hw, rm⟩ := r.sl i x e
    exact ⟨w, hw, rm.stay (Le.refl _) fun a o p e1 e2 => ⟨e2, noR_keep e1⟩⟩⟩
end
section
variable {X : Cx} {e : Expr} {es : List Expr} {pos : Pos} {n : Nat}
end

/-! ### a part is set -/
noncomputable def mvK (j k : Nat) (O : OW) : OW := fun a => match O a with
  | some (.r, p) => some (.s j, k :: p)
  | some (.s i, p) => if i = j ∧ p.head? = some k then none else some (.s i, p)
  | none => none
/-- a field put: where it is, or at the end -/
noncomputable def fput {α : Type} (ns : List Str) (xs : List α) (f : Str) (x : α) : List Str × List α := match ns.findIdx? (fun y => y == f) with
  | some k => (ns, xs.set k x)
  | none => (ns ++ [f], xs ++ [x])
theorem putF_zip {f : Str} {v : V} : ∀ {ns : List Str} {vs : List V}, ns.length = vs.length → putF f v (ns.zip vs) = (fput ns vs f v).1.zip (fput ns vs f v).2
  | [], [], _ => by simp [fput, putF]
  | n :: ns, [], h => by simp at h
  | [], u :: vs, h => by simp at h
  | n :: ns, u :: vs, h => by
    have ih := putF_zip (f := f) (v := v) (ns := ns) (vs := vs) (by simpa using h)
    have hl : ns.length = vs.length := by simpa using h
    show (if n = f then (n, v) :: ns.zip vs else (n, u) :: putF f v (ns.zip vs)) = _
    unfold fput at ih ⊢
    rw [List.findIdx?_cons]
    by_cases c : n = f
    · subst c
      simp
    · have c1 : (n == f) = false := beq_eq_false_iff_ne.mpr c
      rw [if_neg c, c1, ih]
      simp only [Bool.false_eq_true, if_false]
      cases e : ns.findIdx? (fun y => y == f) with
      | none => simp
      | some k => simp
theorem RepMs.snoc {K : KG} {H F : Hp} {O : OW} {q : Pl} {v : V} {m : M} : ∀ {ms : List M} {n : Nat} {vs : List V}, RepMs K H F O q n vs ms → RepM K H F O (q.1, q.2 ++ [n + ms.length]) v m → RepMs K H F O q n (vs ++ [v]) (ms ++ [m])
  | [], n, vs, h, hm => by
    rw [show vs = [] from h]
    exact ⟨v, [], rfl, hm, rfl⟩
  | x :: ms, n, vs, h, hm => by
    obtain ⟨u, vs', e, h1, h2⟩ := h
    subst e
    refine ⟨u, vs' ++ [v], rfl, h1, RepMs.snoc h2 ?_⟩
    have z : n + 1 + ms.length = n + (x :: ms).length := by rw [List.length_cons]; omega
    rw [z]
    exact hm
theorem RepMs.allB {K : KG} {H F H' F' : Hp} {O O' : OW} {q q' : Pl} : ∀ {ms : List M} {n : Nat} {vs : List V}, (∀ i v m, i < n + ms.length → RepM K H F O (q.1, q.2 ++ [i]) v m → RepM K H' F' O' (q'.1, q'.2 ++ [i]) v m) → RepMs K H F O q n vs ms → RepMs K H' F' O' q' n vs ms
  | [], n, vs, keep, h => h
  | x :: ms, n, vs, keep, h => by
    obtain ⟨v, vs', ev, h1, h2⟩ := h
    exact ⟨v, vs', ev, keep _ _ _ (by rw [List.length_cons]; omega) h1, RepMs.allB (fun i v m hi => keep i v m (by rw [List.length_cons]; omega)) h2⟩
section
variable {K : KG} {H F : Hp} {O : OW} {σ : St} {S : SS} {j k : Nat} {m : M} {v : V}
theorem mvK_some {a : Addr} {q : Pl} (h : mvK j k O a = some q) : ∃ q', O a = some q' := by
  unfold mvK at h
  cases e : O a with
  | none => rw [e] at h; cases h
  | some z => exact ⟨z, rfl⟩
/-- the object at a0, which has the slot's own place, is changed, and the result put as its k-th part -/
theorem Rp.putAt {a0 : Addr} {o1 : HO} {m1 : M} {v0 : V} (r : Rp K H F O σ S) (hv : σ[j]? = some (some v0)) (ho : O a0 = some (.s j, []))
    (hm : (∀ i u x, i ≠ k → RepM K H F O (.s j, [i]) u x → RepM K (upd H a0 o1) F (mvK j k O) (.s j, [i]) u x) → RepM K (upd H a0 o1) F (mvK j k O) (.s j, [k]) v m → upd H a0 o1 a0 = some o1 → mvK j k O a0 = some (.s j, []) → RepM K (upd H a0 o1) F (mvK j k O) (.s j, []) v0 m1)
    (rm : RepM K H F O (.r, []) v m) : Stp H F O (upd H a0 o1) F (mvK j k O) ∧ Rp K (upd H a0 o1) F (mvK j k O) σ (S.set j (some m1)) := by
  have hF := (r.bs.fo a0 _ ho).1
  have o0 : mvK j k O a0 = some (.s j, []) := by unfold mvK; rw [ho]; simp
  refine ⟨⟨Le.refl _, fun b u hb eb => ?_, fun b q hb => .inl (mvK_some hb), fun b u hb => .inl hb, al_upd⟩, ⟨⟨fun b u hb => ?_, fun b q hb => ?_⟩, by rw [List.length_set]; exact r.len, fun i x hx => ?_⟩⟩
  · rw [upd_ne (fun z => by subst z; rw [ho] at eb; cases eb)]; exact hb
  · rw [upd_ne (ne_of_none hb hF)]; exact r.bs.fh b u hb
  · obtain ⟨q', e⟩ := mvK_some hb
    obtain ⟨h1, u, hu⟩ := r.bs.fo b q' e
    exact ⟨h1, al_upd b u hu⟩
  · rcases SS.at_set hx with ⟨e1, e2⟩ | ⟨ne, hx⟩
    · subst e1
      cases e2
      refine ⟨v0, hv, hm (fun i u x hi rx => ?_) ?_ upd_same o0⟩
      · exact RepM.rel (z := .s j) (z' := .s j) (p0 := [i]) (p1 := [i]) (s := []) (Le.refl _) (fun b u s e1 e2 => ⟨by
          rw [upd_ne (fun z => by subst z; rw [ho] at e1; cases e1)]; exact e2, by
          unfold mvK; rw [e1]; dsimp only; rw [if_neg (fun z => hi (by simpa using z.2))]⟩) rx
      · exact RepM.rel (z := .r) (z' := .s j) (p0 := []) (p1 := [k]) (s := []) (Le.refl _) (fun b u s e1 e2 => ⟨by
          rw [upd_ne (fun z => by subst z; rw [ho] at e1; cases e1)]; exact e2, by
          have e1 : O b = some (.r, s) := e1
          unfold mvK; rw [e1]; rfl⟩) rm
    · obtain ⟨w, hw, rw'⟩ := r.sl i x hx
      refine ⟨w, hw, rw'.stay (Le.refl _) fun b u p e1 e2 => ⟨?_, ?_⟩⟩
      · rw [upd_ne (fun z => by subst z; rw [ho] at e1; cases e1; exact ne rfl)]
        exact e2
      · unfold mvK; rw [e1]; dsimp only; rw [if_neg (fun z => ne z.1.symm)]
noncomputable def M.fput : M → Str → M → M
  | .ob c ns ms, f, x => .ob c (Ev.fput ns ms f x).1 (Ev.fput ns ms f x).2
  | m, _, _ => m
theorem Rp.putOb {c f : Str} {ns : List Str} {ms : List M} (r : Rp K H F O σ S) (e : S.at j = some (.ob c ns ms)) (rm : RepM K H F O (.r, []) v m) : ∃ a0 C dx vs0 O', σ[j]? = some (some (.ref a0)) ∧ K.cl c = some C ∧ H a0 = some (.ins C dx (ns.zip vs0)) ∧ ns.length = vs0.length ∧ ns.length = ms.length ∧
    Stp H F O (upd H a0 (.ins C dx (putF f v (ns.zip vs0)))) F O' ∧ Rp K (upd H a0 (.ins C dx (putF f v (ns.zip vs0)))) F O' σ (S.set j (some (M.fput (.ob c ns ms) f m))) := by
  obtain ⟨v0, hv, a0, C, dx, vs0, rfl, ho, hc, hh, el, rs⟩ := r.sl j _ e
  have hl := RepMs.len rs
  have e2 := putF_zip (f := f) (v := v) el
  cases ef : ns.findIdx? (fun y => y == f) with
  | some k =>
    have e3 : Ev.fput ns vs0 f v = (ns, vs0.set k v) := by unfold Ev.fput; rw [ef]
    have e4 : Ev.fput ns ms f m = (ns, ms.set k m) := by unfold Ev.fput; rw [ef]
    refine ⟨a0, C, dx, vs0, mvK j k O, hv, hc, hh, el, by rw [el, hl], ?_⟩
    refine r.putAt hv ho (fun keep new h1 h2 => ?_) rm
    show RepM K _ F _ (.s j, []) (.ref a0) (.ob c (Ev.fput ns ms f m).1 (Ev.fput ns ms f m).2)
    rw [e4]
    refine ⟨a0, C, dx, vs0.set k v, rfl, h2, hc, by rw [h1, e2, e3], by rw [List.length_set]; exact el, ?_⟩
    exact RepMs.put (q := (.s j, [])) (q' := (.s j, [])) (n := 0) (fun i v m hi => keep i v m (by rw [Nat.zero_add] at hi; exact hi)) (by rw [Nat.zero_add]; exact new) rs
  | none =>
    have e3 : Ev.fput ns vs0 f v = (ns ++ [f], vs0 ++ [v]) := by unfold Ev.fput; rw [ef]
    have e4 : Ev.fput ns ms f m = (ns ++ [f], ms ++ [m]) := by unfold Ev.fput; rw [ef]
    refine ⟨a0, C, dx, vs0, mvK j ms.length O, hv, hc, hh, el, by rw [el, hl], ?_⟩
    refine r.putAt hv ho (fun keep new h1 h2 => ?_) rm
    show RepM K _ F _ (.s j, []) (.ref a0) (.ob c (Ev.fput ns ms f m).1 (Ev.fput ns ms f m).2)
    rw [e4]
    refine ⟨a0, C, dx, vs0 ++ [v], rfl, h2, hc, by rw [h1, e2, e3], by rw [List.length_append, List.length_append, el]; rfl, ?_⟩
    refine RepMs.snoc ?_ (by rw [Nat.zero_add]; exact new)
    exact RepMs.allB (q := (.s j, [])) (q' := (.s j, [])) (fun i v m hi h => keep i v m (by omega) h) rs
end

section
variable {X : Cx} {kp : Nat → Bool} {o b e i : Expr} {pos spos : Pos} {j : Nat}
/-- x.f = e -/
noncomputable def sSetF (j : Nat) (c f : Str) (fm : FM) : FS := fun S => (fm S).bind fun m S1 => match S1.at j with
  | some (.ob c' ns ms) => if c' = c ∧ ns.length < 1000 then .ok .nx (S1.set j (some (M.fput (.ob c' ns ms) f m))) else .no
  | _ => .no
theorem zip_len {α β : Type} {xs : List α} {ys : List β} : (xs.zip ys).length ≤ xs.length := by rw [List.length_zip]; exact Nat.min_le_left _ _
theorem ds_setF {c f : Str} {fm : FM} (he : DM X fm e) (ho : PE X o (tVar j)) (cl : ClF (kg X) c f)
    (hs : swapsWith e (some (.Attribute o f pos)) spos.line X.env = pure false := by rfl) : DS X kp (sSetF j c f fm) (.Assign [.Attribute o f pos] e spos) :=
  PS.imp (ps_fld ho he hs) fun D σ H ⟨F, O, S, fl, S', r, hf, k⟩ => by
    obtain ⟨m, S1, h1, h2⟩ := R.bind_ok hf
    refine ⟨F, O, S, m, S1, r, h1, fun v H1 F1 O1 st1 r1 rm => ?_⟩
    split at h2
    · rename_i c' ns ms em
      split at h2
      · rename_i hc
        cases h2
        obtain ⟨rfl, hn⟩ := hc
        obtain ⟨a0, C, dx, vs0, O', hv, hC, hh, el, el2, st2, r2⟩ := r1.putOb (f := f) em rm
        obtain ⟨c1, c2⟩ := cl C hC
        exact ⟨_, hv, a0, C, dx, _, rfl, hh, c1, c2, Nat.lt_of_le_of_lt zip_len hn, k σ _ _ _ (st1.trans st2) r2 (Kp.refl _ _)⟩
      · cases h2
    · cases h2
/-- the field of an operand -/
noncomputable def fldD (c f : Str) : D → Option D
  | .obj c' fs => if c' = c then fs.lookup f else none
  | _ => none
noncomputable def fldO (c f : Str) (o : Ov) (S : SS) : Option D := match o with
  | .d x => fldD c f x
  | .j i => match S.at i with
    | some (.d x) => fldD c f x
    | some (.ob c' ns ms) => if c' = c then (match ns.findIdx? (fun y => y == f) with
      | some k => (match ms[k]? with
        | some (.d x) => some x
        | _ => none)
      | none => none) else none
    | _ => none
noncomputable def eFld (c f : Str) (fe : FE) : FE := fun S => (fe S).bind fun o S1 => match fldO c f o S1 with
  | some d => .ok (.d d) S1
  | none => .no
theorem lookup_repd {K : KG} {F : Hp} {f : Str} : ∀ {ns : List Str} {vs : List V} {ds : List D} {d : D}, RepDs K F vs ds → (ns.zip ds).lookup f = some d → ∃ v, (ns.zip vs).lookup f = some v ∧ RepD K F v d
  | [], vs, ds, d, h, e => by simp at e
  | n :: ns, _, _, d, .nil, e => by simp at e
  | n :: ns, _, _, d, .cons (v := v) (d := x) h hs, e => by
    rw [List.zip_cons_cons, List.lookup_cons] at e ⊢
    cases c : (f == n) with
    | true => rw [c] at e; cases e; exact ⟨v, rfl, h⟩
    | false => rw [c] at e; exact lookup_repd hs e
theorem fldO_ok {K : KG} {H F : Hp} {O : OW} {σ : St} {S : SS} {c f : Str} {o : Ov} {d : D} {v : V} (r : Rp K H F O σ S) (cl : ClF K c f) (ro : RepOv K F σ v o) (h : fldO c f o S = some d) :
    ∃ a C dx fs u, K.cl c = some C ∧ v = .ref a ∧ H a = some (.ins C dx fs) ∧ Cls K.k C ∧ NoAttr K.k C f ∧ fs.lookup f = some u ∧ RepD K F u d := by
  have fz : ∀ {v : V} {x : D}, RepD K F v x → fldD c f x = some d → ∃ a C dx fs u, K.cl c = some C ∧ v = .ref a ∧ H a = some (.ins C dx fs) ∧ Cls K.k C ∧ NoAttr K.k C f ∧ fs.lookup f = some u ∧ RepD K F u d := fun {v x} rd e => by
    cases rd with
    | obj hc hh el rds =>
      rename_i a C dx c' ns vs ds
      have e2 : (if c' = c then (ns.zip ds).lookup f else none) = some d := e
      by_cases cc : c' = c
      · rw [if_pos cc] at e2
        subst cc
        obtain ⟨c1, c2⟩ := cl C hc
        obtain ⟨u, h1, h2⟩ := lookup_repd rds e2
        exact ⟨a, C, dx, _, u, hc, rfl, r.bs.fh _ _ hh, c1, c2, h1, h2⟩
      · rw [if_neg cc] at e2; cases e2
    | _ => cases e
  cases o with
  | d x => exact fz ro h
  | j i =>
    have hz : (match S.at i with
      | some (.d x) => fldD c f x
      | some (.ob c' ns ms) => if c' = c then (match ns.findIdx? (fun y => y == f) with
        | some k => (match ms[k]? with
          | some (.d x) => some x
          | _ => none)
        | none => none) else none
      | _ => none) = some d := h
    clear h
    have z : σ[i]? = some (some v) := ro
    cases em : S.at i with
    | none => rw [em] at hz; cases hz
    | some m =>
      rw [em] at hz
      obtain ⟨w, hw, rm⟩ := r.sl i _ em
      rw [hw] at z
      cases z
      cases m with
      | d x => exact fz rm hz
      | ob c' ns ms =>
        dsimp only at hz
        by_cases cc : c' = c
        · rw [if_pos cc] at hz
          subst cc
          cases hk : ns.findIdx? (fun y => y == f) with
          | none => rw [hk] at hz; cases hz
          | some k =>
            rw [hk] at hz
            dsimp only at hz
            cases hx : ms[k]? with
            | none => rw [hx] at hz; cases hz
            | some mx =>
              rw [hx] at hz
              cases mx with
              | d x =>
                cases hz
                obtain ⟨a, C, dx, vs, e1, ho, hC, hh, el, rs⟩ := rm
                obtain ⟨c1, c2⟩ := cl C hC
                obtain ⟨u, h1, h2⟩ := RepMs.get rs hx
                exact ⟨a, C, dx, _, u, hC, e1, hh, c1, c2, lookup_at hk h1, h2⟩
              | _ => cases hz
        · rw [if_neg cc] at hz; cases hz
      | _ => cases hz
theorem de_fld {c f : Str} {fe : FE} (he : DE X fe o) (cl : ClF (kg X) c f) (hb : attributeBase o f X.env (eval o X.env) = eval o X.env := by rfl) : DE X (eFld c f fe) (.Attribute o f pos) :=
  PE.imp (pe_fld he hb) fun σ H Q ⟨F, O, S, oo, S', r, hf, k⟩ => by
    obtain ⟨o1, S1, h1, h2⟩ := R.bind_ok hf
    refine ⟨F, O, S, o1, S1, r, h1, fun v H1 F1 O1 st1 r1 ro => ?_⟩
    cases e : fldO c f o1 S1 with
    | none => rw [e] at h2; cases h2
    | some d =>
      rw [e] at h2
      cases h2
      obtain ⟨a, C, dx, fs, u, hC, e1, hh, c1, c2, hl, rd⟩ := fldO_ok r1 cl ro e
      exact ⟨a, C, dx, fs, u, e1, hh, c1, c2, hl, k u H1 F1 O1 st1 r1 rd⟩
/-- x.f += e, x.f -= e, of whole numbers -/
noncomputable def sAugF (j : Nat) (c f : Str) (g : Int → Int → Int) (fe : FE) : FS := fun S => match fldO c f (.j j) S with
  | some (.int x) => (fe S).bind fun o S1 => match o.get S1, S1.at j with
    | some (.int y), some (.ob c' ns ms) => if c' = c ∧ ns.length < 1000 then .ok .nx (S1.set j (some (M.fput (.ob c' ns ms) f (.d (.int (g x y)))))) else .no
    | _, _ => .no
  | _ => .no
theorem augF_rd {c f : Str} {g : Int → Int → Int} {fe : FE} {rd : V → V → Hp → VK → Prop} (hrd : ∀ x y H Q, Q (.int (g x y)) H → rd (.int x) (.int y) H Q) (cl : ClF (kg X) c f) {D : Ends} {σ : St} {H : Hp} (h : rdS (kg X) kp (sAugF j c f g fe) D σ H) : sFldAug X.K (tVar j) (rdE (kg X) fe) rd f D σ H := by
  obtain ⟨F, O, S, fl, S', r, hf, k⟩ := h
  unfold sAugF at hf
  split at hf
  · rename_i x ex
    have hv : ∃ v, σ[j]? = some (some v) := by
      cases em : S.at j with
      | none => simp [fldO, em] at ex
      | some m => obtain ⟨v, hv, _⟩ := r.sl j m em; exact ⟨v, hv⟩
    obtain ⟨v, hv⟩ := hv
    obtain ⟨a, C, dx, fs, u, hC0, e1, hh, c1, c2, hl, rd1⟩ := fldO_ok (v := v) r cl (show RepOv (kg X) F σ v (.j j) from hv) ex
    cases rd1
    obtain ⟨oo, S1, h1, h2⟩ := R.bind_ok hf
    refine ⟨v, hv, a, C, dx, fs, _, e1, hh, c1, c2, hl, F, O, S, oo, S1, r, h1, fun w H1 F1 O1 st1 r1 ro => ?_⟩
    split at h2
    · rename_i y c' ns ms eg em
      split at h2
      · rename_i hc
        cases h2
        obtain ⟨rfl, hn⟩ := hc
        obtain rfl := (r1.view ro eg).int
        have rm : RepM (kg X) H1 F1 (noR O1) (.r, []) (.int (g x y)) (.d (.int (g x y))) := RepD.int _
        obtain ⟨a0, C', dx', vs0, O', hv2, hC, hh2, el, el2, st2, r2⟩ := (r1.noR).putOb (f := f) em rm
        rw [hv] at hv2
        cases hv2
        cases e1
        have st3 : Stp H1 F1 O1 H1 F1 (noR O1) := ⟨Le.refl _, fun _ _ h _ => h, fun a q h => .inl ⟨q, (noR_some h).1⟩, fun a o h => .inl h, fun a o h => ⟨o, h⟩⟩
        rw [hC0] at hC
        cases hC
        exact hrd _ _ _ _ ⟨dx', _, hh2, Nat.lt_of_le_of_lt zip_len hn, k σ _ _ _ ((st1.trans st3).trans st2) r2 (Kp.refl _ _)⟩
      · cases h2
    · cases h2
  · cases hf
end

/-! ### for x in xs: x.append(const), xs a list of owned lists -/
/-- a slot's value changed, and forgotten -/
theorem Rp.over {K : KG} {H F : Hp} {O : OW} {σ : St} {S : SS} {i : Nat} {v : Option V} (r : Rp K H F O σ S) : Rp K H F O (σ.set i v) (S.set i none) := by
  refine ⟨r.bs, by rw [List.length_set, List.length_set]; exact r.len, fun q x hq => ?_⟩
  rcases SS.at_set hq with ⟨z1, z2⟩ | ⟨ne, hq⟩
  · cases z2
  · obtain ⟨w, hw, rm⟩ := r.sl q x hq
    exact ⟨w, by rw [List.getElem?_set_ne ne]; exact hw, rm⟩
section
variable {X : Cx} {kp : Nat → Bool} {tg it o c : Expr} {pos p1 p2 p3 apos cpos : Pos} {j i : Nat} {v : V} {d : D}
end

/-! ### the words, to be reckoned -/
@[simp] theorem sSetF_ap (j : Nat) (c f : Str) (fm : FM) (S : SS) : sSetF j c f fm S = (fm S).bind fun m S1 => match S1.at j with
  | some (.ob c' ns ms) => if c' = c ∧ ns.length < 1000 then .ok .nx (S1.set j (some (M.fput (.ob c' ns ms) f m))) else .no
  | _ => .no := (rfl)
@[simp] theorem mfput_ap (c f : Str) (ns : List Str) (ms : List M) (x : M) : M.fput (.ob c ns ms) f x = .ob c (fput ns ms f x).1 (fput ns ms f x).2 := (rfl)
@[simp] theorem fput_ap {α : Type} (ns : List Str) (xs : List α) (f : Str) (x : α) : fput ns xs f x = match ns.findIdx? (fun y => y == f) with
  | some k => (ns, xs.set k x)
  | none => (ns ++ [f], xs ++ [x]) := (rfl)
@[simp] theorem fldD_obj (c f c' : Str) (fs : List (Str × D)) : fldD c f (.obj c' fs) = if c' = c then fs.lookup f else none := (rfl)
@[simp] theorem fldO_d (c f : Str) (x : D) (S : SS) : fldO c f (.d x) S = fldD c f x := (rfl)
@[simp] theorem fldO_j (c f : Str) (i : Nat) (S : SS) : fldO c f (.j i) S = match S.at i with
    | some (.d x) => fldD c f x
    | some (.ob c' ns ms) => if c' = c then (match ns.findIdx? (fun y => y == f) with
      | some k => (match ms[k]? with
        | some (.d x) => some x
        | _ => none)
      | none => none) else none
    | _ => none := (rfl)
@[simp] theorem eFld_ap (c f : Str) (fe : FE) (S : SS) : eFld c f fe S = (fe S).bind fun o S1 => match fldO c f o S1 with
  | some d => .ok (.d d) S1
  | none => .no := (rfl)
@[simp] theorem sAugF_ap (j : Nat) (c f : Str) (g : Int → Int → Int) (fe : FE) (S : SS) : sAugF j c f g fe S = match fldO c f (.j j) S with
  | some (.int x) => (fe S).bind fun o S1 => match o.get S1, S1.at j with
    | some (.int y), some (.ob c' ns ms) => if c' = c ∧ ns.length < 1000 then .ok .nx (S1.set j (some (M.fput (.ob c' ns ms) f (.d (.int (g x y)))))) else .no
    | _, _ => .no
  | _ => .no := (rfl)
section
variable {X : Cx} {k : Nat} {f C : Addr} {fd : FuncData} {ps : List Str} {sp : Sp} {E : XK} {x m : Str} {p pos apos : Pos} {e o : Expr} {es : List Expr} {ta : TE} {t : TA}
theorem pe_methG {pl : Sem Bool} (he : PE X o ta) (c : Cls X.K C) (hm : Meth X.K C m f) (F : FnG X.prog X.w X.K X.mg X.base k f fd ps sp) (hr : RoomG k X.A) (hb : Binds X.K fd ps []) (ha : PA X (e :: es) t)
    (hst : starEach (e :: es) X.env = (false, eval e X.env) :: starEach es X.env := by rfl) (hpl : (backTo pos (starEach es X.env)).any (·.1) = false := by rfl)
    (ht : eval (.Call (.Attribute o m apos) (e :: es) [] pos) X.env = (do
      let ov ← eval o X.env
      standAt apos.atName
      let (f, first) ← holding [ov] (getMethod ov m pl)
      callWith pos f first (backTo pos (starEach (e :: es) X.env)) (backToKw pos (keywordEach [] X.env))) := by rfl) :
    PE X (.Call (.Attribute o m apos) (e :: es) [] pos) (tMeth C m sp [] E ta t) := by
  refine ⟨fun pins s σ H Q I h => ?_⟩
  refine PySem.W.methodCall_KW (pl := pl) (thn (he.run pins s σ H _ I h) fun u s1 ⟨x, H1, I1, rx, a, dx, fs, ex, ea, l, q⟩ => ?_) ht
  subst ex
  obtain rfl : u = Value.ref a := rx
  refine getmeth_ok I1 ea c hm l ?_
  refine PySem.W.callWith_K (first := [.ref a]) (h₀ := X.base) I.ok.mod.kin hm.kp (thn (ha.run pos pins s1 σ H1 _ I1 q) fun us s2 ⟨vs, H2, I2, r, q2⟩ => ⟨I2.kIn, ?_⟩) hst hpl
  have q2 : sp (.ref a :: (vs ++ [])) H2 Q E := q2
  rw [List.append_nil] at q2
  exact run_g (us := .ref a :: us) (vs := .ref a :: vs) F hr hb I2 (.cons rfl r) q2
theorem pe_methG0 {pl : Sem Bool} (he : PE X o ta) (c : Cls X.K C) (hm : Meth X.K C m f) (F : FnG X.prog X.w X.K X.mg X.base k f fd ps sp) (hr : RoomG k X.A) (hb : Binds X.K fd ps [])
    (ht : eval (.Call (.Attribute o m apos) [] [] pos) X.env = (do
      let ov ← eval o X.env
      standAt apos.atName
      let (f, first) ← holding [ov] (getMethod ov m pl)
      callWith pos f first (backTo pos (starEach [] X.env)) (backToKw pos (keywordEach [] X.env))) := by rfl) :
    PE X (.Call (.Attribute o m apos) [] [] pos) (tMeth C m sp [] E ta tNil) := by
  refine ⟨fun pins s σ H Q I h => ?_⟩
  refine PySem.W.methodCall_KW (pl := pl) (thn (he.run pins s σ H _ I h) fun u s1 ⟨x, H1, I1, rx, a, dx, fs, ex, ea, l, q⟩ => ?_) ht
  subst ex
  obtain rfl : u = Value.ref a := rx
  refine getmeth_ok I1 ea c hm l ?_
  exact PySem.W.callWith_K0 (first := [.ref a]) I1.kIn hm.kp (run_g (us := [.ref a]) (vs := [.ref a]) F hr hb I1 (.cons rfl .nil) q)
theorem RoomG.make {A : Around} (r : RoomG (k + 1) A) (C : Addr) (us : List Value) (kw : List (Str × Value)) : RoomG k (A.under (.builtin "type.__call__" ⟨.ref C :: us, kw⟩)) := ⟨r.rm.make C us kw, r.gd⟩
theorem run_makeG {pins : List (Addr × Obj)} {σ : St} {H : Hp} {s : Shared} {Q : VK} {us : List Value} {vs : List V} (M : Mk X.K C f) (F : FnG X.prog X.w X.K X.mg X.base k f fd ps sp) (hr : RoomG (k + 1) X.A) (hb : Binds X.K fd ps [])
    (I : L2.Inv X pins σ H s) (r : Vals vs us)
    (h : ∀ x dx, H x = none → H dx = none → dx ≠ x → sp (.ref x :: vs) (upd (upd H dx (.own x)) x (.ins C dx [])) (fun v H2 => v = .non ∧ Q (.ref x) H2) E) :
    wpAny (model X.prog X.w) X.A (call (.ref C) us) (EP X pins σ Q) X.xe s := by
  have hq := h (s.heap.objs.size + 1) s.heap.objs.size (I.hok.fresh (Nat.le_succ _)) (I.hok.fresh (Nat.le_refl _)) (Nat.ne_of_lt (Nat.lt_succ_self _))
  have I2 := L2.Inv.made (C := C) I
  have r2 : Vals (V.ref (s.heap.objs.size + 1) :: vs) (Value.ref (s.heap.objs.size + 1) :: us) := .cons rfl r
  have hl : (Value.ref (s.heap.objs.size + 1) :: us).length = ps.length := by
    have e := r2.length
    rw [F.len _ _ _ _ hq] at e
    exact e.symm
  have hb' := hb _ (Value.ref (s.heap.objs.size + 1) :: us) I2.kIn (by rw [List.append_nil]; exact hl)
  rw [List.append_nil] at hb'
  refine wpAny_call (make_map (f := f) I.kIn M.makes M.init (beq_iff_eq.mp M.fn) (codeAny_mono (F.run _ X.stack _ _ ⟨Value.ref (s.heap.objs.size + 1) :: us, []⟩ (Value.ref (s.heap.objs.size + 1) :: us) _ _ E (hr.make C us [])
    (I2.env0.make C us []) hb' r2 hq) fun r s' hq' => ?_))
  match r, hq' with
  | .ok (.ret u), hq' =>
    obtain ⟨v, H', I3, rv, ev, q3⟩ := I2.after hq'
    subst ev
    exact ⟨rv, ⟨V.ref (s.heap.objs.size + 1), H', I3, rfl, q3⟩⟩
theorem pe_makeG (M : Mk X.K C f) (F : FnG X.prog X.w X.K X.mg X.base k f fd ps sp) (hr : RoomG (k + 1) X.A) (hg : Gl X x) (hm : X.mg x = some (.ref C)) (hb : Binds X.K fd ps [])
    (ha : PA X (e :: es) t) (hdb : (x == ("__debug__" : Str)) = false := by decide) (he : starEach (e :: es) X.env = (false, eval e X.env) :: starEach es X.env := by rfl) (hpl : (backTo pos (starEach es X.env)).any (·.1) = false := by rfl) :
    PE X (.Call (.Name x p) (e :: es) [] pos) (tMake C sp [] E t) := by
  refine ⟨fun pins s σ H Q I h => ?_⟩
  refine wpAny_Call_Name_kw (ld_glob I hg hm ?_ hdb)
  refine PySem.W.callWith_K (h₀ := X.base) I.ok.mod.kin M.kp (thn (ha.run pos pins s σ H _ I h) fun us s1 ⟨vs, H1, I1, r, q⟩ => ⟨I1.kIn, ?_⟩) he hpl
  refine run_makeG (E := E) M F hr hb I1 r fun x dx h1 h2 h3 => ?_
  have := q x dx h1 h2 h3
  rw [List.append_nil] at this
  exact this
end

/-! ### methods -/
noncomputable def obD (c m : Str) : D → Bool
  | .obj c' fs => decide (c' = c) && (fs.lookup m).isNone
  | _ => false
noncomputable def obO (c m : Str) (o : Ov) (S : SS) : Bool := match o with
  | .d x => obD c m x
  | .j i => match S.at i with
    | some (.d x) => obD c m x
    | some (.ob c' ns _) => decide (c' = c) && !ns.contains m
    | _ => false
noncomputable def mMth (c m : Str) (g : List M → CR) (fe : FE) (fas : FA) : FM := fun S => (fe S).bind fun o S1 => if obO c m o S1 = true then (fas S1).bind fun os S2 => callR g (o :: os) S2 else .no
/-- a method of a class of the text -/
structure FnM (P : Program) (w : World) (K : PySem.W.Frag) (mg : Str → Option Value) (base : Heap) (n : Nat) (c m : Str) (np : Nat) (g : List M → CR) : Prop where
  ex : ∃ (C f : Addr) (fd : FuncData) (ps : List Str), mg c = some (.ref C) ∧ Cls K C ∧ Meth K C m f ∧ ps.length = np ∧ FnG P w K mg base n f fd ps (spD (kg0 K mg) np g) ∧ Binds K fd ps []
theorem lookup_none_zip {α β : Type} {m : Str} : ∀ {ns : List Str} {ds : List α} {vs : List β}, ds.length = vs.length → (ns.zip ds).lookup m = none → (ns.zip vs).lookup m = none
  | [], _, _, _, _ => rfl
  | n :: ns, [], [], _, _ => rfl
  | n :: ns, d :: ds, v :: vs, hl, h => by
    rw [List.zip_cons_cons, List.lookup_cons] at h ⊢
    cases e : m == n with
    | true => rw [e] at h; cases h
    | false =>
      rw [e] at h
      exact lookup_none_zip (by simpa using hl) h
theorem lookup_none_of {α : Type} {m : Str} : ∀ {ns : List Str} {vs : List α}, ns.contains m = false → (ns.zip vs).lookup m = none
  | [], _, _ => rfl
  | n :: ns, [], _ => rfl
  | n :: ns, v :: vs, h => by
    rw [List.contains_cons, Bool.or_eq_false_iff] at h
    rw [List.zip_cons_cons, List.lookup_cons, h.1]
    exact lookup_none_of h.2
theorem obO_ok {K : KG} {H F : Hp} {O : OW} {σ : St} {S : SS} {c m : Str} {o : Ov} {v : V} (r : Rp K H F O σ S) (ro : RepOv K F σ v o) (h : obO c m o S = true) : ∃ a C dx fs, v = .ref a ∧ K.cl c = some C ∧ H a = some (.ins C dx fs) ∧ fs.lookup m = none := by
  have dd : ∀ {x : D} {v : V}, RepD K F v x → obD c m x = true → ∃ a C dx fs, v = .ref a ∧ K.cl c = some C ∧ H a = some (.ins C dx fs) ∧ fs.lookup m = none := fun {x v} rx hx => by
    cases x with
    | obj c' fs =>
      have hx : (decide (c' = c) && (fs.lookup m).isNone) = true := hx
      rw [Bool.and_eq_true] at hx
      obtain ⟨h1, h2⟩ := hx
      have e := of_decide_eq_true h1
      cases rx with
      | obj hc hF hl rs =>
        subst e
        exact ⟨_, _, _, _, rfl, hc, r.bs.fh _ _ hF, lookup_none_zip rs.len.symm (Option.isNone_iff_eq_none.mp h2)⟩
    | _ => cases hx
  cases o with
  | d x => exact dd ro h
  | j i =>
    have z : σ[i]? = some (some v) := ro
    have h : (match S.at i with
      | some (.d x) => obD c m x
      | some (.ob c' ns _) => decide (c' = c) && !ns.contains m
      | _ => false) = true := h
    cases em : S.at i with
    | none => rw [em] at h; cases h
    | some mm =>
      rw [em] at h
      obtain ⟨w, hw, rm⟩ := r.sl i mm em
      rw [hw] at z
      cases z
      cases mm with
      | d x => exact dd rm h
      | ob c' ns ms =>
        have h : (decide (c' = c) && !ns.contains m) = true := h
        rw [Bool.and_eq_true] at h
        obtain ⟨h1, h2⟩ := h
        have e := of_decide_eq_true h1
        obtain ⟨a, C, dx, vs, ev, ho, hc, hh, hl, rs⟩ := rm
        subst e
        exact ⟨a, C, dx, _, ev, hc, hh, lookup_none_of (by simpa using h2)⟩
      | _ => cases h
theorem clsOf_ref {mg : Str → Option Value} {c : Str} {C : Addr} (h : mg c = some (.ref C)) : clsOf mg c = some C := by
  unfold clsOf
  rw [h]
section
variable {X : Cx} {n np : Nat} {c m x : Str} {g : List M → CR} {p pos apos : Pos} {e o : Expr} {es : List Expr} {fe : FE} {fas : FA}
theorem mth_rd {C : Addr} {σ : St} {H : Hp} {Q : VK} (hC : X.mg c = some (.ref C)) (hm : Many fas np) (h : rdM (kg X) (mMth c m g fe fas) σ H Q) : tMeth C m (spD (kg X) (np + 1) g) [] (fun _ _ _ => False) (rdE (kg X) fe) (rdA (kg X) fas) σ H Q := by
  obtain ⟨F, O, S, mm, S', r, hf, k⟩ := h
  obtain ⟨o, S1, h1, h2⟩ := R.bind_ok hf
  refine ⟨F, O, S, o, S1, r, h1, fun v H1 F1 O1 st1 r1 ro => ?_⟩
  split at h2
  · rename_i hob
    obtain ⟨a, C', dx, fs, rfl, hc, ha, hl⟩ := obO_ok r1 ro hob
    have : clsOf X.mg c = some C' := hc
    rw [clsOf_ref hC] at this
    cases this
    obtain ⟨os, S2, h3, h4⟩ := R.bind_ok h2
    refine ⟨a, dx, fs, rfl, ha, hl, F1, O1, S1, os, S2, r1, h3, fun vs H2 F2 O2 st2 r2 ros => ?_⟩
    show spD (kg X) (np + 1) g (.ref a :: (vs ++ [])) H2 Q _
    rw [List.append_nil]
    exact call_core r2 (.cons (ro.mono st2.ff) ros) (congrArg (· + 1) (hm _ _ _ h3)) h4 fun v H' F' O' st r' rm => k v H' F' O' ((st1.trans st2).trans st) r' rm
  · cases h2
theorem dm_mth (he : DE X fe o) (F : FnM X.prog X.w X.K X.mg X.base n c m (np + 1) g) (hr : RoomG n X.A) (ha : DA X fas (e :: es)) (hm : Many fas np)
    (hst : starEach (e :: es) X.env = (false, eval e X.env) :: starEach es X.env := by rfl) (hpl : (backTo pos (starEach es X.env)).any (·.1) = false := by rfl) {pl : Sem Bool}
    (ht : eval (.Call (.Attribute o m apos) (e :: es) [] pos) X.env = (do
      let ov ← eval o X.env
      standAt apos.atName
      let (f, first) ← holding [ov] (getMethod ov m pl)
      callWith pos f first (backTo pos (starEach (e :: es) X.env)) (backToKw pos (keywordEach [] X.env))) := by rfl) (hcm : X.calm = true := by rfl) : DM X (mMth c m g fe fas) (.Call (.Attribute o m apos) (e :: es) [] pos) := by
  obtain ⟨C, f, fd, ps, hC, hc, hmt, hps, hF, hb⟩ := F.ex
  rw [← kg_calm hcm] at hF
  exact PE.imp (pe_methG (E := fun _ _ _ => False) he hc hmt hF hr hb ha hst hpl ht) fun σ H Q h => mth_rd hC hm h
theorem dm_mth0 (he : DE X fe o) (F : FnM X.prog X.w X.K X.mg X.base n c m 1 g) (hr : RoomG n X.A) {pl : Sem Bool}
    (ht : eval (.Call (.Attribute o m apos) [] [] pos) X.env = (do
      let ov ← eval o X.env
      standAt apos.atName
      let (f, first) ← holding [ov] (getMethod ov m pl)
      callWith pos f first (backTo pos (starEach [] X.env)) (backToKw pos (keywordEach [] X.env))) := by rfl) (hcm : X.calm = true := by rfl) : DM X (mMth c m g fe aNil) (.Call (.Attribute o m apos) [] [] pos) := by
  obtain ⟨C, f, fd, ps, hC, hc, hmt, hps, hF, hb⟩ := F.ex
  rw [← kg_calm hcm] at hF
  refine PE.imp (pe_methG0 (E := fun _ _ _ => False) he hc hmt hF hr hb ht) fun σ H Q h => ?_
  have ⟨F', O, S, o, S', r, hf, k⟩ := mth_rd (np := 0) hC many_nil h
  refine ⟨F', O, S, o, S', r, hf, fun v H1 F1 O1 st1 r1 ro => ?_⟩
  obtain ⟨a, dx, fs, e1, e2, e3, F2, O2, S2, os, S3, r2, hf2, k2⟩ := k v H1 F1 O1 st1 r1 ro
  cases hf2
  exact ⟨a, dx, fs, e1, e2, e3, k2 [] _ _ _ (Stp.refl _ _ _) r2 .nil⟩

/-! ### makers -/
/-- a class of the text and its __init__ -/
structure FnI (P : Program) (w : World) (K : PySem.W.Frag) (mg : Str → Option Value) (base : Heap) (n : Nat) (c : Str) (np : Nat) (g : List M → CR) : Prop where
  ex : (∀ ms, g ms = .no) ∨ ∃ (k : Nat) (C f : Addr) (fd : FuncData) (ps : List Str), k + 1 = n ∧ mg c = some (.ref C) ∧ Mk K C f ∧ ps.length = np ∧ FnG P w K mg base k f fd ps (spD (kg0 K mg) np g) ∧ Binds K fd ps []
/-- a new object stands behind the slots, and is lent to __init__ -/
noncomputable def endMk (n : Nat) (m : M) (S : SS) : R M := match m with
  | .d .non => (match S.at n with
    | some m => .ok m (S.take n)
    | none => .no)
  | _ => .no
noncomputable def mMake (c : Str) (g : List M → CR) (fas : FA) : FM := fun S => (fas S).bind fun os S1 => (callR g (.j S1.length :: os) (S1 ++ [some (.ob c [] [])])).bind fun m S2 => endMk S1.length m S2
/-- what stood at the last slot is the result -/
noncomputable def lastO (n : Nat) (O : OW) : OW := fun a => match O a with
  | some (.s i, p) => if i = n then some (.r, p) else some (.s i, p)
  | _ => none
theorem Rp.cutLast {K : KG} {H F : Hp} {O : OW} {σ : St} {S : SS} {v : V} {m : M} (r : Rp K H F O (σ ++ [some v]) S) (e : S.at σ.length = some m) :
    Stp H F O H F (lastO σ.length O) ∧ Rp K H F (lastO σ.length O) σ (S.take σ.length) ∧ RepM K H F (lastO σ.length O) (.r, []) v m := by
  have sm : ∀ a q, lastO σ.length O a = some q → ∃ q', O a = some q' := fun a q h => by
    unfold lastO at h
    cases e : O a with
    | none => rw [e] at h; cases h
    | some z => exact ⟨z, rfl⟩
  have hl := r.len
  rw [List.length_append, List.length_singleton] at hl
  refine ⟨⟨Le.refl _, fun _ _ h _ => h, fun a q h => .inl (sm a q h), fun _ _ h => .inl h, fun _ o h => ⟨o, h⟩⟩, ⟨⟨r.bs.fh, fun a q h => ?_⟩, by rw [List.length_take, hl]; exact Nat.min_eq_left (Nat.le_succ _), fun i mm hi => ?_⟩, ?_⟩
  · obtain ⟨q', h'⟩ := sm a q h
    exact r.bs.fo a q' h'
  · unfold SS.at at hi
    rw [List.getElem?_take] at hi
    split at hi
    · rename_i hlt
      obtain ⟨w, hw, rm⟩ := r.sl i mm hi
      rw [List.getElem?_append_left hlt] at hw
      refine ⟨w, hw, rm.stay (Le.refl _) fun a o p e1 e2 => ⟨e2, ?_⟩⟩
      unfold lastO
      rw [e1]
      dsimp only
      rw [if_neg (Nat.ne_of_lt hlt)]
    · cases hi
  · obtain ⟨w, hw, rm⟩ := r.sl _ m e
    rw [List.getElem?_append_right (Nat.le_refl _), Nat.sub_self] at hw
    cases hw
    refine RepM.move (Le.refl _) (fun a o p e1 e2 => ⟨e2, ?_⟩) rm
    unfold lastO
    rw [e1]
    dsimp only
    rw [if_pos rfl]
theorem make_rd {C : Addr} {σ : St} {H : Hp} {Q : VK} (hC : X.mg c = some (.ref C)) (hm : Many fas np) (h : rdM (kg X) (mMake c g fas) σ H Q) : tMake C (spD (kg X) (np + 1) g) [] (fun _ _ _ => False) (rdA (kg X) fas) σ H Q := by
  obtain ⟨F, O, S, mm, S', r, hf, k⟩ := h
  obtain ⟨os, S1, h1, h2⟩ := R.bind_ok hf
  refine ⟨F, O, S, os, S1, r, h1, fun vs H1 F1 O1 st1 r1 ro a dx ha hdx ne => ?_⟩
  rw [List.append_nil]
  obtain ⟨m0, S2, ec, h2⟩ := R.bind_ok h2
  · have hm0 : m0 = .d .non := by
      cases m0 with
      | d y => cases y <;> first | rfl | cases h2
      | _ => cases h2
    subst hm0
    have h2 : (match S2.at S1.length with
      | some m => R.ok m (S2.take S1.length)
      | none => .no) = .ok mm S' := h2
    cases em : S2.at S1.length with
    | none => rw [em] at h2; cases h2
    | some m =>
      rw [em] at h2
      cases h2
      have hlen := r1.len
      obtain ⟨H2, hH2⟩ : ∃ H2, H2 = upd (upd H1 dx (.own a)) a (.ins C dx []) := ⟨_, rfl⟩
      obtain ⟨O2, hO2⟩ : ∃ O2, O2 = ownR O1 a (.s S1.length, []) := ⟨_, rfl⟩
      have fa := r1.bs.free ha
      have fd := r1.bs.free hdx
      have h2a : H2 a = some (.ins C dx []) := by rw [hH2]; exact upd_same
      have h2k : ∀ b u, H1 b = some u → H2 b = some u := fun b u e => by
        rw [hH2, upd_ne (fun z => by rw [z, ha] at e; cases e), upd_ne (fun z => by rw [z, hdx] at e; cases e)]
        exact e
      have o2k : ∀ b q, O1 b = some q → O2 b = some q := fun b q e => by
        rw [hO2]
        unfold ownR
        rw [if_neg (fun z => by rw [z, fa.2] at e; cases e)]
        exact e
      have st2 : Stp H1 F1 O1 H2 F1 O2 := by
        refine ⟨Le.refl _, fun b u e _ => h2k b u e, fun b q e => ?_, fun _ _ e => .inl e, fun b u e => ⟨u, h2k b u e⟩⟩
        rw [hO2] at e
        unfold ownR at e
        split at e
        · rename_i z
          exact .inr (z ▸ ha)
        · exact .inl ⟨q, e⟩
      have r2 : Rp (kg X) H2 F1 O2 (σ ++ [some (.ref a)]) (S1 ++ [some (.ob c [] [])]) := by
        refine ⟨⟨fun b u e => h2k b u (r1.bs.fh b u e), fun b q e => ?_⟩, by rw [List.length_append, List.length_append, hlen]; rfl, fun i mm hi => ?_⟩
        · rw [hO2] at e
          unfold ownR at e
          split at e
          · rename_i z
            subst z
            exact ⟨fa.1, _, h2a⟩
          · obtain ⟨z1, u, z2⟩ := r1.bs.fo b q e
            exact ⟨z1, u, h2k b u z2⟩
        · unfold SS.at at hi
          by_cases hlt : i < S1.length
          · rw [List.getElem?_append_left hlt] at hi
            obtain ⟨w, hw, rm⟩ := r1.sl i mm hi
            refine ⟨w, by rw [List.getElem?_append_left (by rw [← hlen]; exact hlt)]; exact hw, rm.stay (Le.refl _) fun b u p e1 e2 => ⟨h2k b u e2, o2k b _ e1⟩⟩
          · have : i = S1.length := by
              cases e : (S1 ++ [some (M.ob c [] [])])[i]? with
              | none => rw [e] at hi; cases hi
              | some z =>
                have := (List.getElem?_eq_some_iff.mp e).1
                rw [List.length_append, List.length_singleton] at this
                omega
            subst this
            rw [List.getElem?_append_right (Nat.le_refl _), Nat.sub_self] at hi
            cases hi
            refine ⟨.ref a, by rw [hlen, List.getElem?_append_right (Nat.le_refl _), Nat.sub_self]; rfl, a, C, dx, [], rfl, ?_, clsOf_ref hC, h2a, rfl, rfl⟩
            rw [hO2]
            unfold ownR
            rw [if_pos rfl]
      have ro2 : RepOvs (kg X) F1 (σ ++ [some (.ref a)]) vs os := by
        have : ∀ {vs : List V} {os : List Ov}, RepOvs (kg X) F1 σ vs os → RepOvs (kg X) F1 (σ ++ [some (.ref a)]) vs os := fun {vs os} h => by
          induction h with
          | nil => exact .nil
          | cons h _ ih =>
            rename_i v vs o os _
            refine .cons ?_ ih
            cases o with
            | d x => exact h
            | j i =>
              have z : σ[i]? = some (some v) := h
              show (σ ++ [some (.ref a)])[i]? = some (some v)
              rw [List.getElem?_append_left (List.getElem?_eq_some_iff.mp z).1]
              exact z
        exact this ro
      rw [← hH2]
      refine call_core (O1 := O2) r2 (.cons (o := .j S1.length) (show (σ ++ [some (V.ref a)])[S1.length]? = some (some (V.ref a)) by rw [hlen, List.getElem?_append_right (Nat.le_refl _), Nat.sub_self]; rfl) ro2) (congrArg (· + 1) (hm _ _ _ h1)) ec fun v H' F' O' st r' rm => ?_
      have rv : v = .non := by
        have rm : RepD (kg X) F' v .non := rm
        cases rm
        rfl
      rw [hlen] at em
      obtain ⟨st3, r3, rm3⟩ := r'.cutLast em
      refine ⟨rv, k _ _ _ _ ((st1.trans st2).trans (st.trans st3)) (by rw [hlen]; exact r3) rm3⟩
theorem make_no (hz : ∀ ms, g ms = .no) : DM X (mMake c g fas) e := by
  refine ⟨fun pins s σ H Q I h => ?_⟩
  obtain ⟨F, O, S, m, S', r, hf, k⟩ := h
  obtain ⟨os, S1, h1, h2⟩ := R.bind_ok hf
  obtain ⟨m0, S2, h3, h4⟩ := R.bind_ok h2
  unfold callR at h3
  split at h3
  · rw [hz] at h3
    cases h3
  · cases h3
theorem dm_make (F : FnI X.prog X.w X.K X.mg X.base n c (np + 1) g) (hr : RoomG n X.A) (hg : Gl X c) (ha : DA X fas (e :: es)) (hm : Many fas np) (hdb : (c == ("__debug__" : Str)) = false := by decide)
    (he : starEach (e :: es) X.env = (false, eval e X.env) :: starEach es X.env := by rfl) (hpl : (backTo pos (starEach es X.env)).any (·.1) = false := by rfl) (hcm : X.calm = true := by rfl) : DM X (mMake c g fas) (.Call (.Name c p) (e :: es) [] pos) := by
  rcases F.ex with hz | ⟨k, C, f, fd, ps, hk, hC, hM, hps, hF, hb⟩
  · exact make_no hz
  subst hk
  rw [← kg_calm hcm] at hF
  exact PE.imp (pe_makeG (E := fun _ _ _ => False) hM hF hr hg hC hb ha hdb he hpl) fun σ H Q h => make_rd hC hm h
end
theorem fnM_zero {P : Program} {w : World} {K : PySem.W.Frag} {mg : Str → Option Value} {base : Heap} {n : Nat} {c x qual : Str} {st : Stmt} {C f : Addr} {fd : FuncData} {ps : List Str} (F : Fun K x qual st f fd) (m : mg c = some (.ref C)) (hc : Cls K C) (hm : Meth K C x f) (b : Binds K fd ps []) :
    FnM P w K mg base n c x ps.length (fun _ => .no) := by
  refine ⟨C, f, fd, ps, m, hc, hm, rfl, ⟨fun vs H Q E ⟨_, _, _, _, _, h, _⟩ => h, fun A outer s H args us vs Q E _ _ _ _ h => ?_⟩, b⟩
  obtain ⟨_, _, _, _, _, _, _, _, _, h, _⟩ := h
  cases h
/-- __init__ as a def by itself -/
structure FnN (P : Program) (w : World) (K : PySem.W.Frag) (mg : Str → Option Value) (base : Heap) (n : Nat) (c : Str) (np : Nat) (g : List M → CR) : Prop where
  ex : ∃ (C f : Addr) (fd : FuncData) (ps : List Str), mg c = some (.ref C) ∧ Mk K C f ∧ ps.length = np ∧ FnG P w K mg base n f fd ps (spD (kg0 K mg) np g) ∧ Binds K fd ps []
theorem fnN_zero {P : Program} {w : World} {K : PySem.W.Frag} {mg : Str → Option Value} {base : Heap} {n : Nat} {c x qual : Str} {st : Stmt} {C f : Addr} {fd : FuncData} {ps : List Str} (F : Fun K x qual st f fd) (m : mg c = some (.ref C)) (hm : Mk K C f) (b : Binds K fd ps []) :
    FnN P w K mg base n c ps.length (fun _ => .no) := by
  refine ⟨C, f, fd, ps, m, hm, rfl, ⟨fun vs H Q E ⟨_, _, _, _, _, h, _⟩ => h, fun A outer s H args us vs Q E _ _ _ _ h => ?_⟩, b⟩
  obtain ⟨_, _, _, _, _, _, _, _, _, h, _⟩ := h
  cases h
theorem FnN.maker {P : Program} {w : World} {K : PySem.W.Frag} {mg : Str → Option Value} {base : Heap} {n np : Nat} {c : Str} {g : List M → CR} (h : FnN P w K mg base n c np g) : FnI P w K mg base (n + 1) c np g :=
  let ⟨C, f, fd, ps, h1, h2, h3, h4, h5⟩ := h.ex
  ⟨.inr ⟨n, C, f, fd, ps, rfl, h1, h2, h3, h4, h5⟩⟩
theorem clF_of {K : PySem.W.Frag} {mg : Str → Option Value} {c f : Str} {C : Addr} (h : mg c = some (.ref C)) (hc : Cls K C) (hn : NoAttr K C f) : ClF (kg0 K mg) c f := fun C' h' => by
  have : clsOf mg c = some C' := h'
  rw [clsOf_ref h] at this
  cases this
  exact ⟨hc, hn⟩
theorem fnI_zero {P : Program} {w : World} {K : PySem.W.Frag} {mg : Str → Option Value} {base : Heap} {n : Nat} {c : Str} {np : Nat} : FnI P w K mg base n c np (fun _ => .no) := ⟨.inl fun _ => rfl⟩

/-! ### int(text) -/
noncomputable def intD2 : D → Option M
  | .str a => (match PySem.intText? a with
    | some n => if a.length ≤ 640 then some (.d (.int n)) else none
    | none => none)
  | d => intD d
section
variable {X : Cx}
theorem cd_int2 : CallR X (.type "int") (semC (kg X) (on1 intD2)) := call1 fun pins s σ H F v x us m Q I r l wx e wi => by
  cases x with
  | int i => obtain rfl := wx.int; cases e; exact call_int1 pins s σ H _ us Q I r (.inl ⟨i, rfl, wi.int⟩)
  | bl i => obtain rfl := wx.bl; cases e; exact call_int1 pins s σ H _ us Q I r (.inr ⟨i, rfl, wi.int⟩)
  | str a =>
    obtain rfl := wx.str
    have e : (match PySem.intText? a with
      | some n => if a.length ≤ 640 then some (M.d (.int n)) else none
      | none => none) = some m := e
    cases en : PySem.intText? a with
    | none => rw [en] at e; cases e
    | some n =>
      rw [en] at e
      dsimp only at e
      split at e
      · rename_i hl
        cases e
        exact call_int_str pins s σ H _ us Q I r ⟨a, n, rfl, en, hl, wi.int⟩
      · cases e
  | _ => cases e

/-! ### f-strings -/
noncomputable def fmtD : D → Option Str
  | .str y => if y.length ≤ line then some y else none
  | .int i => if -(2 ^ 64) < i ∧ i < 2 ^ 64 then some (toString i) else none
  | _ => none
/-- {e} -/
noncomputable def mFmt (f : FE) : FM := fun S => (f S).bind fun o S => match (o.get S).bind fmtD with
  | some y => .ok (.d (.str y)) S
  | none => .no
variable {e : Expr} {pos : Pos}
theorem dm_fmt {f : FE} (h : DE X f e) : DM X (mFmt f) (.FormattedValue e (-1) none pos) := PE.imp (pe_fmt h) fun σ H Q ⟨F, O, S, m, S', r, hf, k⟩ => by
  obtain ⟨o, S1, h1, h2⟩ := R.bind_ok hf
  refine ⟨F, O, S, o, S1, r, h1, fun v H1 F1 O1 st1 r1 ro => ?_⟩
  cases eg : o.get S1 with
  | none => rw [eg] at h2; cases h2
  | some d =>
    rw [eg] at h2
    have h2 : (match fmtD d with
      | some y => R.ok (M.d (.str y)) S1
      | none => .no) = .ok m S' := h2
    cases d with
    | str y =>
      obtain rfl := (r1.view ro eg).str
      have h2 : (match (if y.length ≤ line then some y else none) with
        | some y => R.ok (M.d (.str y)) S1
        | none => .no) = .ok m S' := h2
      split at h2
      · rename_i z hz
        split at hz
        · rename_i hl
          cases hz
          cases h2
          exact .inl ⟨y, rfl, by rw [← line_eq]; exact hl, k _ _ _ _ st1 r1 (.str y)⟩
        · cases hz
      · cases h2
    | int i =>
      obtain rfl := (r1.view ro eg).int
      have h2 : (match (if -(2 ^ 64) < i ∧ i < 2 ^ 64 then some (toString i : Str) else none) with
        | some y => R.ok (M.d (.str y)) S1
        | none => .no) = .ok m S' := h2
      split at h2
      · rename_i z hz
        split at hz
        · rename_i hl
          cases hz
          cases h2
          exact .inr ⟨i, rfl, Nat.lt_of_lt_of_le (PySem.Flt.log2_lt_of (k := 64) (by decide) (by omega)) (by decide), k _ _ _ _ st1 r1 (.str _)⟩
        · cases hz
      · cases h2
    | _ => cases h2
noncomputable def jsL : List FM → Str → SS → R M
  | [], acc, S => .ok (.d (.str acc)) S
  | f :: fs, acc, S => (f S).bind fun m S => match m with
    | .d (.str y) => if (acc ++ y).length ≤ line then jsL fs (acc ++ y) S else .no
    | _ => .no
noncomputable def mJs (fs : List FM) : FM := jsL fs Str.empty
inductive DJ (X : Cx) : List FM → List Expr → Prop
  | nil : DJ X [] []
  | cons {f : FM} {e : Expr} {fs : List FM} {es : List Expr} (h : DM X f e) (r : DJ X fs es) : DJ X (f :: fs) (e :: es)
theorem DJ.pj {fs : List FM} {es : List Expr} (h : DJ X fs es) : PJ X es (fs.map (rdM (kg X))) := by
  induction h with
  | nil => exact .nil
  | cons h _ ih => exact .cons h ih
theorem js_rd {K : KG} {σ : St} {Q : VK} : ∀ {fs : List FM} {acc : Str} {H F : Hp} {O : OW} {S S' : SS} {m : M}, Rp K H F O σ S → jsL fs acc S = .ok m S' →
    (∀ v H' F' O', Stp H F O H' F' O' → Rp K H' F' O' σ S' → RepM K H' F' O' (.r, []) v m → Q v H') → tJs (fs.map (rdM K)) acc σ H fun out H1 => Q (.str out) H1
  | [], acc, H, F, O, S, S', m, r, h, k => by
    cases h
    exact k _ _ _ _ (Stp.refl _ _ _) r (.str acc)
  | f :: fs, acc, H, F, O, S, S', m, r, h, k => by
    obtain ⟨m1, S1, h1, h2⟩ := R.bind_ok h
    show rdM K f σ H _
    refine ⟨F, O, S, m1, S1, r, h1, fun v H1 F1 O1 st1 r1 rm => ?_⟩
    cases m1 with
    | d x =>
      cases x with
      | str y =>
        have rm : RepD K F1 v (.str y) := rm
        cases rm
        have h2 : (if (acc ++ y).length ≤ line then jsL fs (acc ++ y) S1 else .no) = .ok m S' := h2
        split at h2
        · rename_i hl
          exact ⟨y, rfl, by rw [← line_eq]; exact hl, js_rd r1 h2 fun v H' F' O' st r' rm' => k v H' F' O' (st1.trans st) r' rm'⟩
        · cases h2
      | _ => cases h2
    | _ => cases h2
theorem dm_js {f1 f2 : FM} {fs : List FM} {e1 e2 : Expr} {es : List Expr} (h : DJ X (f1 :: f2 :: fs) (e1 :: e2 :: es)) : DM X (mJs (f1 :: f2 :: fs)) (.JoinedStr (e1 :: e2 :: es) pos) :=
  PE.imp (pe_joined h.pj) fun σ H Q ⟨F, O, S, m, S', r, hf, k⟩ => js_rd r hf k
/-! ### replace, split behind a docstring -/
theorem PET.imp {t t' : TE} (h : PET X e t) (hm : ∀ σ H Q, t' σ H Q → t σ H Q) : PET X e t' := fun pins s σ H Q h0 I q => h pins s σ H Q h0 I (hm σ H Q q)
noncomputable abbrev DMT (X : Cx) (f : FM) (e : Expr) : Prop := PET X e (rdM (kg X) f)
theorem DMT.of {f : FM} (h : DM X f e) : DMT X f e := CwR.PET.of h
noncomputable def mRepl (y z : Str) (f : FM) : FM := fun S => (f S).bind fun m S => match m with
  | .d (.str x) => if x.length + (x.length + 1) * z.length ≤ 16777216 then .ok (.d (.str (Txt.replace x y z))) S else .no
  | _ => .no
theorem dmt_repl {y z : Str} {f : FM} {j k : Nat} {c0 c1 apos : Pos} (ho : DMT X f e) (hyz : (y == z) = false := by decide)
    (hst : starEach [.Constant (.str y) j c0, .Constant (.str z) k c1] X.env = [(false, eval (.Constant (.str y) j c0) X.env), (false, eval (.Constant (.str z) k c1) X.env)] := by rfl)
    (hbase : attributeBase e "replace" X.env (eval e X.env) = eval e X.env := by rfl) (hline : (apos.endLine == pos.line) = true := by rfl) :
    DMT X (mRepl y z f) (.Call (.Attribute e "replace" apos) [.Constant (.str y) j c0, .Constant (.str z) k c1] [] pos) := PET.imp (CwR.pet_replT ho hyz hst hbase hline) fun σ H Q ⟨F, O, S, m, S', r, hf, k⟩ => by
  obtain ⟨m1, S1, h1, h2⟩ := R.bind_ok hf
  refine ⟨F, O, S, m1, S1, r, h1, fun v H1 F1 O1 st1 r1 rm => ?_⟩
  cases m1 with
  | d x =>
    cases x with
    | str x =>
      have rm : RepD (kg X) F1 v (.str x) := rm
      cases rm
      have h2 : (if x.length + (x.length + 1) * z.length ≤ 16777216 then R.ok (M.d (.str (Txt.replace x y z))) S1 else .no) = .ok m S' := h2
      split at h2
      · rename_i hl
        cases h2
        exact ⟨x, rfl, hl, k _ _ _ _ st1 r1 (.str _)⟩
      · cases h2
    | _ => cases h2
  | _ => cases h2
noncomputable def mWords (f : FM) : FM := fun S => (f S).bind fun m S => match m with
  | .d (.str x) => if x.length + 2 ≤ line then .ok (.lst ((Txt.words x).map .str)) S else .no
  | _ => .no
theorem pet_m0 {id : String} {name : Str} {o : Expr} {to : TE} {apos pos : Pos} {r : V → List V → Hp → VK → Prop} (slot : Slot "str" name id) (ty : typeOf (.builtin id) = pure (.type "method_descriptor")) (rule : MtR X id r) (ho : PET X o to)
    (hbase : attributeBase o name X.env (eval o X.env) = eval o X.env := by rfl) (hline : (apos.endLine == pos.line) = true := by rfl) : PET X (.Call (.Attribute o name apos) [] [] pos) (tM0 r to) := by
  intro pins s σ H Q h0 I h
  refine PySem.Call_method0 hbase hline (thn (ho pins s σ H _ h0 I h) fun v s1 ⟨x, H1, I1, r1, q1⟩ => ?_)
  obtain ⟨⟨a, rfl⟩, q1⟩ := q1
  obtain ⟨t, rfl⟩ := _root_.id r1
  exact ⟨"str", _, PySem.F.plainAttrs_str, slot, ty, typeIs_str _ _ _, (fun _ e => nomatch e), Calls.callWith_builtin rfl (PySem.evalArgs_none (rule pins s1 σ H1 _ [] _ [] Q I1 r1 .nil q1))⟩
theorem dmt_words {f : FM} {apos : Pos} (ho : DMT X f e) (hbase : attributeBase e "split" X.env (eval e X.env) = eval e X.env := by rfl) (hline : (apos.endLine == pos.line) = true := by rfl) :
    DMT X (mWords f) (.Call (.Attribute e "split" apos) [] [] pos) := PET.imp (pet_m0 PySem.F.slot_str_split PySem.F.type_str_split mt_words ho hbase hline) fun σ H Q ⟨F, O, S, m, S', r, hf, k⟩ => by
  obtain ⟨m1, S1, h1, h2⟩ := R.bind_ok hf
  refine ⟨F, O, S, m1, S1, r, h1, fun v H1 F1 O1 st1 r1 rm => ?_⟩
  cases m1 with
  | d x =>
    cases x with
    | str x =>
      have rm : RepD (kg X) F1 v (.str x) := rm
      cases rm
      have h2 : (if x.length + 2 ≤ line then R.ok (M.lst ((Txt.words x).map .str)) S1 else .no) = .ok m S' := h2
      split at h2
      · rename_i hl
        cases h2
        refine ⟨⟨x, rfl⟩, x, rfl, rfl, by rw [← line_eq]; exact hl, fun p hp => ?_⟩
        have hh := r1.layO (o := .lst ((Txt.words x).map V.str)) (q := (.r, [])) hp
        refine k _ _ _ _ (st1.trans hh.1) hh.2 ⟨p, _, rfl, ?_, upd_same, ?_⟩
        · unfold ownR
          rw [if_pos rfl]
        · have : ∀ ys : List Str, RepDs (kg X) F1 (ys.map V.str) (ys.map D.str) := fun ys => by
            induction ys with
            | nil => exact .nil
            | cons y ys ih => exact .cons (.str y) ih
          exact this _
      · cases h2
    | _ => cases h2
  | _ => cases h2
end
/-! ### simp lemmas -/
@[simp] theorem callR_ap (g : List M → CR) (os : List Ov) (S1 : SS) : callR g os S1 = match lend os S1 with
  | some (ms, S2) => (g ms).toR fun fin => back os ms fin S2
  | none => .no := (rfl)
@[simp] theorem mMth_ap (c m : Str) (g : List M → CR) (fe : FE) (fas : FA) (S : SS) : mMth c m g fe fas S = (fe S).bind fun o S1 => if obO c m o S1 = true then (fas S1).bind fun os S2 => callR g (o :: os) S2 else .no := (rfl)
@[simp] theorem obO_d (c m : Str) (x : D) (S : SS) : obO c m (.d x) S = obD c m x := (rfl)
@[simp] theorem obO_j (c m : Str) (i : Nat) (S : SS) : obO c m (.j i) S = (match S.at i with
    | some (.d x) => obD c m x
    | some (.ob c' ns _) => decide (c' = c) && !ns.contains m
    | _ => false) := (rfl)
@[simp] theorem obD_ob (c m c' : Str) (fs : List (Str × D)) : obD c m (.obj c' fs) = (decide (c' = c) && (fs.lookup m).isNone) := (rfl)
@[simp] theorem mMake_ap (c : Str) (g : List M → CR) (fas : FA) (S : SS) : mMake c g fas S = (fas S).bind fun os S1 => (callR g (.j S1.length :: os) (S1 ++ [some (.ob c [] [])])).bind fun m S2 => endMk S1.length m S2 := (rfl)
@[simp] theorem endMk_ap (n : Nat) (S : SS) : endMk n (.d .non) S = (match S.at n with
    | some m => .ok m (S.take n)
    | none => .no) := (rfl)
@[simp] theorem intD2_i (i : Int) : intD2 (.int i) = some (.d (.int i)) := (rfl)
@[simp] theorem intD2_b (b : Bool) : intD2 (.bl b) = some (.d (.int (if b then 1 else 0))) := (rfl)
@[simp] theorem intD2_s (a : Str) : intD2 (.str a) = (match PySem.intText? a with
  | some n => if a.length ≤ 640 then some (.d (.int n)) else none
  | none => none) := (rfl)
@[simp] theorem mFmt_ap (f : FE) (S : SS) : mFmt f S = (f S).bind fun o S => match (o.get S).bind fmtD with
  | some y => .ok (.d (.str y)) S
  | none => .no := (rfl)
@[simp] theorem fmtD_s (y : Str) : fmtD (.str y) = if y.length ≤ 16777216 then some y else none := (rfl)
@[simp] theorem fmtD_i (i : Int) : fmtD (.int i) = if -(2 ^ 64) < i ∧ i < 2 ^ 64 then some (toString i : Str) else none := (rfl)
@[simp] theorem mJs_ap (fs : List FM) (S : SS) : mJs fs S = jsL fs Str.empty S := (rfl)
@[simp] theorem jsL_nil (acc : Str) (S : SS) : jsL [] acc S = .ok (.d (.str acc)) S := (rfl)
noncomputable def jsE (fs : List FM) (acc : Str) (m : M) (S : SS) : R M := match m with
    | .d (.str y) => if (acc ++ y).length ≤ line then jsL fs (acc ++ y) S else .no
    | _ => .no
@[simp] theorem jsL_cons (f : FM) (fs : List FM) (acc : Str) (S : SS) : jsL (f :: fs) acc S = (f S).bind fun m S => jsE fs acc m S := (rfl)
@[simp] theorem jsE_s (fs : List FM) (acc y : Str) (S : SS) : jsE fs acc (.d (.str y)) S = if (acc ++ y).length ≤ 16777216 then jsL fs (acc ++ y) S else .no := (rfl)
@[simp] theorem mRepl_ap (y z : Str) (f : FM) (S : SS) : mRepl y z f S = (f S).bind fun m S => match m with
  | .d (.str x) => if x.length + (x.length + 1) * z.length ≤ 16777216 then .ok (.d (.str (Txt.replace x y z))) S else .no
  | _ => .no := (rfl)
@[simp] theorem mWords_ap (f : FM) (S : SS) : mWords f S = (f S).bind fun m S => match m with
  | .d (.str x) => if x.length + 2 ≤ 16777216 then .ok (.lst ((Txt.words x).map .str)) S else .no
  | _ => .no := (rfl)

/-! ### a set of texts as a thing -/
theorem SetX.at_ {w : World} {h h' : Heap} {a : Addr} {xs : List Str} (R : SetX w h a xs) (k : ∀ o, h.get? a = some o → h'.get? a = some o) : SetX w h' a xs :=
  let ⟨o, es, ep, t, ⟨ho, hx, hd⟩, r⟩ := R
  ⟨o, es, ep, t, ⟨k o ho, hx, hd⟩, r⟩
section
variable {X : Cx}
end
section
variable {X : Cx} {p pos : Pos}
end

theorem View.dict {K : KG} {H F : Hp} {v : V} {kd : List (Key × D)} (l : Le F H) (h : View K H F v (.dk kd)) : ∃ (a : Addr) (ks : List Key) (vs : List V) (ds : List D), v = .ref a ∧ Rd H a (.dK (ks.zip vs)) ∧ ks.length = vs.length ∧ RepDs K F vs ds ∧ kd = ks.zip ds := by
  generalize hd : D.dk kd = d at h
  cases h with
  | fz h =>
    subst hd
    generalize hd : D.dk kd = d at h
    cases h with
    | dk h e r => cases hd; exact ⟨_, _, _, _, rfl, l.rd h, e, r, rfl⟩
    | _ => cases hd
  | dk h e r => cases hd; exact ⟨_, _, _, _, rfl, .inl h, e, r, rfl⟩
  | _ => cases hd
section
variable {X : Cx} {e a b o i : Expr} {pos apos cpos : Pos}
/-! ### d[k] = v -/
/-! ### x.pop(i) -/
end
/-! ### {k: v for ..} -/
/-! ### simp lemmas -/
section
variable {X : Cx} {kp : Nat → Bool} {e : Expr} {pos pt : Pos} {x y : Str} {px py ps : Pos} {kt : Nat}
end
/-! ### x.clear() -/
section
variable {X : Cx}
end
/-! ### name = {k: v for ..}, the name a local -/
section
variable {X : Cx} {kp : Nat → Bool}
end
/-! ### len(set(a tuple of texts)) -/
section
variable {X : Cx} {a : Expr} {p p2 q pos : Pos}
end
noncomputable def parO (i j : Nat) (O : OW) : OW := fun a => match O a with
  | some (.r, 0 :: p) => some (.s i, p)
  | some (.r, 1 :: p) => some (.s j, p)
  | some (.s k, p) => if k = i ∨ k = j then none else some (.s k, p)
  | _ => none
theorem parO_some {i j : Nat} {O : OW} {a : Addr} {q : Pl} (h : parO i j O a = some q) : ∃ q', O a = some q' := by
  unfold parO at h
  cases e : O a with
  | none => rw [e] at h; cases h
  | some q' => exact ⟨q', rfl⟩
section
variable {K : KG} {H F : Hp} {O : OW} {σ : St} {S : SS}
theorem Rp.par {i j : Nat} {v w : V} {m1 m2 : M} (r : Rp K H F O σ S) (hij : i ≠ j) (rs : RepMs K H F O (.r, []) 0 [v, w] [m1, m2]) :
    Stp H F O H F (parO i j O) ∧ Rp K H F (parO i j O) ((σ.set i (some v)).set j (some w)) ((S.set i (some m1)).set j (some m2)) := by
  obtain ⟨v', vs', e, h1, h2⟩ := rs
  cases e
  obtain ⟨w', ws', e, h3, _⟩ := h2
  cases e
  refine ⟨⟨Le.refl _, fun a o ha _ => ha, fun a q e => .inl (parO_some e), fun a o e => .inl e, fun a o e => ⟨o, e⟩⟩, ⟨⟨r.bs.fh, fun a q e => ?_⟩, by simp only [List.length_set]; exact r.len, fun k x h => ?_⟩⟩
  · obtain ⟨q', e'⟩ := parO_some e
    exact r.bs.fo a q' e'
  · have lt : ∀ {k : Nat} {x : M} {T : SS}, T.at k = some x → k < T.length := fun {k x T} h => by
      unfold SS.at at h
      by_cases z : k < T.length
      · exact z
      · rw [List.getElem?_eq_none (by simpa using z)] at h; cases h
    rcases SS.at_set h with ⟨e1, e2⟩ | ⟨ne, h⟩
    · subst e1
      cases e2
      have hl := lt h
      simp only [List.length_set, r.len] at hl
      exact ⟨w, by rw [List.getElem?_set_self (by simpa using hl)], RepM.rel (z := .r) (z' := .s j) (p0 := [1]) (p1 := []) (s := []) (Le.refl _) (fun a o s e3 e4 => ⟨e4, by unfold parO; rw [e3]; rfl⟩) h3⟩
    · rcases SS.at_set h with ⟨e1, e2⟩ | ⟨ne2, h⟩
      · subst e1
        cases e2
        have hl := lt h
        simp only [List.length_set, r.len] at hl
        exact ⟨v, by rw [List.getElem?_set_ne ne, List.getElem?_set_self hl], RepM.rel (z := .r) (z' := .s i) (p0 := [0]) (p1 := []) (s := []) (Le.refl _) (fun a o s e3 e4 => ⟨e4, by unfold parO; rw [e3]; rfl⟩) h1⟩
      · obtain ⟨u, hu, ru⟩ := r.sl k x h
        refine ⟨u, by rw [List.getElem?_set_ne ne, List.getElem?_set_ne ne2]; exact hu, ru.stay (Le.refl _) fun a o p e1 e2 => ⟨e2, ?_⟩⟩
        unfold parO
        rw [e1]
        dsimp only
        rw [if_neg]
        rintro (z | z)
        · exact ne2 z.symm
        · exact ne z.symm
end
section
variable {X : Cx} {kp : Nat → Bool} {a b : Expr} {pos : Pos}
end
namespace TZ
open PySem PySem.Spec
open PyProof.Rows hiding St

/-- a zip of two tuples at turn i: fresh, or one whose last pair is still out -/
structure At (h : Heap) (z TI TO a1 a2 l1 l2 : Addr) (i : Nat) : Prop where
  st : (IsZip h z TI TO .none ∧ ∃ u v, IsPair h TO u v) ∨ ∃ T f oT, IsZipHeld h z TI TO T f ∧ h.get? T = some oT
  ti : IsPair h TI (.ref a1) (.ref a2)
  p1 : h.IsTupleIter a1 l1 i
  p2 : h.IsTupleIter a2 l2 i
section
variable {prog : Program} {w : World} {A : Around} {E : Value → Shared → Prop} {s : Shared} {z TI TO a1 a2 l1 l2 : Addr} {i : Nat} {xs ys : Array Value}
theorem At.keep {h h' : Heap} {S : Addr} (t : At h z TI TO a1 a2 l1 l2 i) (nz : z ≠ S) (nI : TI ≠ S) (nO : TO ≠ S) (n1 : a1 ≠ S) (n2 : a2 ≠ S) (k : ∀ b o, b ≠ S → h.get? b = some o → h'.get? b = some o) (k2 : ∀ b o, h.get? b = some o → ∃ o', h'.get? b = some o') : At h' z TI TO a1 a2 l1 l2 i := by
  obtain ⟨st, ti, p1, p2⟩ := t
  refine ⟨?_, k _ _ nI ti, p1.at fun o e => k _ o n1 e, p2.at fun o e => k _ o n2 e⟩
  rcases st with ⟨q, u, v, q2⟩ | ⟨T, f, oT, q, q2⟩
  · exact .inl ⟨k _ _ nz q, u, v, k _ _ nO q2⟩
  · obtain ⟨o', e⟩ := k2 _ _ q2
    exact .inr ⟨T, f, o', k _ _ nz q, e⟩
theorem At.ty {h : Heap} (t : At h z TI TO a1 a2 l1 l2 i) : ∃ o, h.get? z = some o ∧ o.cls = .type "zip" := by
  rcases t.st with ⟨q, _⟩ | ⟨T, f, oT, q, _⟩
  · exact ⟨_, q, rfl⟩
  · exact ⟨_, q, rfl⟩
/-- the next pair, while the last one is out -/
theorem held_item {T : Addr} {f : Bool} {oT : Obj} {x y : Value} {Q : Value → Shared → Prop} (D : ZipApart z TI TO a1 a2 l1 l2) (hz : IsZipHeld s.heap z TI TO T f) (hT : s.heap.get? T = some oT) (hI : IsPair s.heap TI (.ref a1) (.ref a2))
    (h1 : s.heap.IsTupleIter a1 l1 i) (h2 : s.heap.IsTupleIter a2 l2 i) (t1 : s.heap.IsTuple l1 xs) (t2 : s.heap.IsTuple l2 ys) (hx : xs[i]? = some x) (hy : ys[i]? = some y)
    (k : ∀ h', IsZipHeld h' z TI TO T true → h'.IsTupleIter a1 l1 (i + 1) → h'.IsTupleIter a2 l2 (i + 1) → IsPair h' s.heap.objs.size x y →
      (∀ c o, c ≠ z → c ≠ a1 → c ≠ a2 → s.heap.get? c = some o → h'.get? c = some o) → Q (.ref s.heap.objs.size) { s with heap := h' }) :
    wpAny (model prog w) A (Builtin.«zip.__next__» ⟨[.ref z], []⟩) (fun r s' => ∃ v, r = .done (.ret v) ∧ Q v s') E s := by
  show wpAny (model prog w) A (field (.ref z) 2 >>= _) _ _ _
  refine wpAny_bind (wpAny_field hz rfl (x := Value.bool false) rfl ?_)
  show wpAny (model prog w) A (field (.ref z) 3 >>= _) _ _ _
  refine wpAny_bind (wpAny_field hz rfl (x := Value.ref TI) rfl (wpAny_bind (wpAny_seqItems hI rfl ?_)))
  show wpAny (model prog w) A (Builtin.SmallTypes.ownedTupleIsFree (.ref z) >>= _) _ _ _
  refine wpAny_bind (wpAny_tupleHeld_zip hz hT fun g1 z1 b1 => ?_)
  simp only [Bool.false_eq_true, if_false]
  refine wpAny_bind ?_
  rw [← Array.forIn_toList]; simp only [List.forIn_cons, List.forIn_nil]
  refine wpAny_bind (wpAny_bind (wpAny_holding (show wpAny (model prog w) A (Builtin.SmallTypes.nextOf (.ref a1) >>= _) _ _ _ from ?_)))
  refine wpAny_bind (RZ.nextOf_tuple_item (s := { s with heap := g1 }) (h1.extBut b1.extBut D.i1z) (t1.extBut b1.extBut D.l1z) hx fun g2 q1 b2 => wpAny_pure (wpAny_pure ?_))
  refine wpAny_bind (wpAny_bind (wpAny_holding (show wpAny (model prog w) A (Builtin.SmallTypes.nextOf (.ref a2) >>= _) _ _ _ from ?_)))
  refine wpAny_bind (RZ.nextOf_tuple_item (s := { s with heap := g2 }) ((h2.extBut b1.extBut D.i2z).extBut b2.extBut D.i12.symm) ((t2.extBut b1.extBut D.l2z).extBut b2.extBut D.l2i1) hy fun g3 q2 b3 => wpAny_pure (wpAny_pure (wpAny_pure ?_)))
  show wpAny (model prog w) A (newTuple [x, y] >>= _) _ _ _
  refine wpAny_bind (wpAny_newTuple ?_)
  have sz : g3.objs.size = s.heap.objs.size := by rw [b3.1, b2.1, b1.1]
  have z3 : IsZipHeld g3 z TI TO T true := b3.extBut _ _ D.i2z.symm (b2.extBut _ _ D.i1z.symm z1)
  have pair : IsPair (g3.push { cls := .type "tuple", data := .seq #[x, y] }) g3.objs.size x y := Heap.get?_push_size _ rfl
  refine wpAny_pure ⟨_, rfl, (?_ : Q (.ref g3.objs.size) _)⟩
  rw [sz] at pair ⊢
  exact k _ (Heap.get?_push_of_some _ z3) ((q1.extBut b3.extBut D.i12).at fun o e => Heap.get?_push_of_some _ e) (q2.at fun o e => Heap.get?_push_of_some _ e) pair
    fun c o n1 n2 n3 e => Heap.get?_push_of_some _ (b3.extBut _ _ n3 (b2.extBut _ _ n2 (b1.extBut _ _ n1 e)))
theorem held_end {T : Addr} {f : Bool} {oT : Obj} {Q : Fin → Shared → Prop} (hh : A.handled = none) (D : ZipApart z TI TO a1 a2 l1 l2) (hz : IsZipHeld s.heap z TI TO T f) (hT : s.heap.get? T = some oT) (hI : IsPair s.heap TI (.ref a1) (.ref a2))
    (h1 : s.heap.IsTupleIter a1 l1 i) (h2 : s.heap.IsTupleIter a2 l2 i) (t1 : s.heap.IsTuple l1 xs) (t2 : s.heap.IsTuple l2 ys) (he : xs[i]? = none ∨ ys[i]? = none)
    (k : ∀ h' e, (∀ c o, c ≠ z → c ≠ a1 → c ≠ a2 → s.heap.get? c = some o → h'.get? c = some o) → (∃ o, h'.get? e = some o ∧ o.cls = .type "StopIteration") → E (.ref e) { s with heap := h' }) :
    wpAny (model prog w) A (Builtin.«zip.__next__» ⟨[.ref z], []⟩) Q E s := by
  show wpAny (model prog w) A (field (.ref z) 2 >>= _) _ _ _
  refine wpAny_bind (wpAny_field hz rfl (x := Value.bool false) rfl ?_)
  show wpAny (model prog w) A (field (.ref z) 3 >>= _) _ _ _
  refine wpAny_bind (wpAny_field hz rfl (x := Value.ref TI) rfl (wpAny_bind (wpAny_seqItems hI rfl ?_)))
  show wpAny (model prog w) A (Builtin.SmallTypes.ownedTupleIsFree (.ref z) >>= _) _ _ _
  refine wpAny_bind (wpAny_tupleHeld_zip hz hT fun g1 z1 b1 => ?_)
  simp only [Bool.false_eq_true, if_false]
  refine wpAny_bind ?_
  rw [← Array.forIn_toList]; simp only [List.forIn_cons, List.forIn_nil]
  refine wpAny_bind (wpAny_bind (wpAny_holding (show wpAny (model prog w) A (Builtin.SmallTypes.nextOf (.ref a1) >>= _) _ _ _ from ?_)))
  cases hx : xs[i]? with
  | none => exact wpAny_bind (RZ.nextOf_tuple_end (s := { s with heap := g1 }) hh (h1.extBut b1.extBut D.i1z) (t1.extBut b1.extBut D.l1z) hx fun g2 e b2 o => k g2 e (fun c u n1 n2 _ y => b2 _ _ n2 (b1.extBut _ _ n1 y)) o)
  | some x =>
    have hy : ys[i]? = none := by
      rcases he with q | q
      · rw [hx] at q; cases q
      · exact q
    refine wpAny_bind (RZ.nextOf_tuple_item (s := { s with heap := g1 }) (h1.extBut b1.extBut D.i1z) (t1.extBut b1.extBut D.l1z) hx fun g2 q1 b2 => wpAny_pure (wpAny_pure ?_))
    refine wpAny_bind (wpAny_bind (wpAny_holding (show wpAny (model prog w) A (Builtin.SmallTypes.nextOf (.ref a2) >>= _) _ _ _ from ?_)))
    exact wpAny_bind (RZ.nextOf_tuple_end (s := { s with heap := g2 }) hh ((h2.extBut b1.extBut D.i2z).extBut b2.extBut D.i12.symm) ((t2.extBut b1.extBut D.l2z).extBut b2.extBut D.l2i1) hy fun g3 e b3 o => k g3 e (fun c u n1 n2 n3 y => b3 _ _ n3 (b2.extBut _ _ n2 (b1.extBut _ _ n1 y))) o)
theorem nx_item {x y : Value} {Q : Option Value → Shared → Prop} (D : ZipApart z TI TO a1 a2 l1 l2) (t : At s.heap z TI TO a1 a2 l1 l2 i) (t1 : s.heap.IsTuple l1 xs) (t2 : s.heap.IsTuple l2 ys) (hx : xs[i]? = some x) (hy : ys[i]? = some y)
    (k : ∀ h', At h' z TI TO a1 a2 l1 l2 (i + 1) → IsPair h' s.heap.objs.size x y → (∀ c o, c ≠ z → c ≠ TO → c ≠ a1 → c ≠ a2 → s.heap.get? c = some o → h'.get? c = some o) → Q (some (.ref s.heap.objs.size)) { s with heap := h' }) :
    wpAny (model prog w) A (pyNext (.ref z)) Q E s := by
  obtain ⟨st, ti, p1, p2⟩ := t
  rcases st with ⟨q, u, v, q2⟩ | ⟨T, f, oT, q, q2⟩
  · exact RZ.pyNext_zipT_item D q ti q2 p1 p2 t1 t2 hx hy fun h' c1 c2 c3 c4 c5 c6 c7 => k h' ⟨.inr ⟨_, false, _, c1, c5⟩, c7 _ _ D.TIz D.TITO D.TIi1 D.TIi2 ti, c3, c4⟩ c5 c7
  · have ty : s.TypeIs (.ref z) "zip" := ⟨_, q, rfl⟩
    unfold pyNext
    refine wpAny_bind (wpAny_attempt (wpAny_callSpecial?_slot (name := Str.ofString "__next__") ty F.slot_zip_next (wpAny_call_entry F.slot_zip_next ty F.entry_zip_next ?_ (F.args_zip_next_1 _))))
    by_cases nT : T = z ∨ T = a1 ∨ T = a2
    · have hT' : ∀ h', IsZipHeld h' z TI TO T true → h'.IsTupleIter a1 l1 (i + 1) → h'.IsTupleIter a2 l2 (i + 1) → ∃ o, h'.get? T = some o := fun h' e1 e2 e3 => by
        rcases nT with e | e | e <;> subst e
        · exact ⟨_, e1⟩
        · exact let ⟨o, g, _⟩ := e2; ⟨o, g⟩
        · exact let ⟨o, g, _⟩ := e3; ⟨o, g⟩
      exact held_item D q q2 ti p1 p2 t1 t2 hx hy fun h' c1 c2 c3 c4 c5 => wpAny_pure (let ⟨o, g⟩ := hT' h' c1 c2 c3; k h' ⟨.inr ⟨T, true, o, c1, g⟩, c5 _ _ D.TIz D.TIi1 D.TIi2 ti, c2, c3⟩ c4 fun c o n1 _ n3 n4 e => c5 c o n1 n3 n4 e)
    · rw [not_or, not_or] at nT
      exact held_item D q q2 ti p1 p2 t1 t2 hx hy fun h' c1 c2 c3 c4 c5 => wpAny_pure (k h' ⟨.inr ⟨T, true, oT, c1, c5 _ _ nT.1 nT.2.1 nT.2.2 q2⟩, c5 _ _ D.TIz D.TIi1 D.TIi2 ti, c2, c3⟩ c4 fun c o n1 _ n3 n4 e => c5 c o n1 n3 n4 e)
theorem nx_end {Q : Option Value → Shared → Prop} (hh : A.handled = none) (D : ZipApart z TI TO a1 a2 l1 l2) (t : At s.heap z TI TO a1 a2 l1 l2 i) (t1 : s.heap.IsTuple l1 xs) (t2 : s.heap.IsTuple l2 ys) (he : xs[i]? = none ∨ ys[i]? = none)
    (k : ∀ h', (∀ c o, c ≠ z → c ≠ TO → c ≠ a1 → c ≠ a2 → s.heap.get? c = some o → h'.get? c = some o) → Q none { s with heap := h' }) : wpAny (model prog w) A (pyNext (.ref z)) Q E s := by
  obtain ⟨st, ti, p1, p2⟩ := t
  rcases st with ⟨q, u, v, q2⟩ | ⟨T, f, oT, q, q2⟩
  · exact RZ.pyNext_zipT_end hh D q ti q2 p1 p2 t1 t2 he k
  · have ty : s.TypeIs (.ref z) "zip" := ⟨_, q, rfl⟩
    unfold pyNext
    refine wpAny_bind (wpAny_attempt (wpAny_callSpecial?_slot (name := Str.ofString "__next__") ty F.slot_zip_next (wpAny_call_entry F.slot_zip_next ty F.entry_zip_next (held_end hh D q q2 ti p1 p2 t1 t2 he fun h' e kk oe => ?_) (F.args_zip_next_1 _))))
    obtain ⟨o, g, c⟩ := oe
    exact wpAny_bind (wpAny_isInstance (T := "StopIteration") (b := true) ⟨o, g, c⟩ isSubtype_stop (wpAny_pure (k _ fun c o n1 _ n3 n4 e => kk c o n1 n3 n4 e)))
end
/-- the pairs made so far -/
structure Prs (xs ys : Array Value) (lo : Addr) (h : Heap) (as : List Addr) : Prop where
  up : as.Pairwise (· < ·)
  lo : ∀ a ∈ as, lo ≤ a
  at_ : ∀ (j : Nat) (a : Addr), as[j]? = some a → ∃ x y, xs[j]? = some x ∧ ys[j]? = some y ∧ IsPair h a x y
theorem Prs.keep {xs ys : Array Value} {lo : Addr} {h h' : Heap} {as : List Addr} (p : Prs xs ys lo h as) (k : ∀ b o, lo ≤ b → h.get? b = some o → h'.get? b = some o) : Prs xs ys lo h' as :=
  ⟨p.up, p.lo, fun j a e => let ⟨x, y, e1, e2, e3⟩ := p.at_ j a e; ⟨x, y, e1, e2, k _ _ (p.lo a (List.mem_of_getElem? e)) e3⟩⟩
section
variable {prog : Program} {w : World} {A : Around} {E : Value → Shared → Prop} {s : Shared} {z TI TO a1 a2 l1 l2 : Addr} {xs ys : Array Value} {R : Result → Shared → Prop} {n : Nat}
theorem ne_lo {lo b S : Addr} (q : lo ≤ b) (o : S < lo) : b ≠ S := Nat.ne_of_gt (Nat.lt_of_lt_of_le o q)
theorem loop {S : Addr} {lo : Addr} (hh : A.handled = none) (D : ZipApart z TI TO a1 a2 l1 l2) (sz : z ≠ S) (sI : TI ≠ S) (sO : TO ≠ S) (s1 : a1 ≠ S) (s2 : a2 ≠ S) (s3 : l1 ≠ S) (s4 : l2 ≠ S) (oS : S < lo) (oz : z < lo) (oO : TO < lo) (o1 : a1 < lo) (o2 : a2 < lo)
    (hn : n ≤ sizeLine) (n1 : n ≤ xs.size) (n2 : n ≤ ys.size) (n3 : xs[n]? = none ∨ ys[n]? = none) (res : Value) {h0 : Heap}
    (hR : ∀ h' tk acc c as, (∀ b o, b ≠ S → b ≠ z → b ≠ TO → b ≠ a1 → b ≠ a2 → h0.get? b = some o → h'.get? b = some o) → h'.get? S = some { cls := .type "list", dict := none, data := .seq acc c, slots := #[] } → as.length = n → Prs xs ys lo h' as →
      acc.toList = as.map Value.ref → R (.ok (.ret res)) { s with heap := h', toks := tk }) :
    ∀ (k i : Nat) (h : Heap) (tk c : Nat) (acc : Array Value) (as : List Addr), n - i = k → i ≤ n → At h z TI TO a1 a2 l1 l2 i → h.IsTuple l1 xs → h.IsTuple l2 ys → lo ≤ h.objs.size →
      (∀ b o, b ≠ S → b ≠ z → b ≠ TO → b ≠ a1 → b ≠ a2 → h0.get? b = some o → h.get? b = some o) →
      h.get? S = some { cls := .type "list", dict := none, data := .seq acc c, slots := #[] } → acc.toList = as.map Value.ref → as.length = i → Prs xs ys lo h as →
      codeAny (model prog w) A (.builtin "list.extend.loop" ⟨[.ref S, .ref z, res], []⟩) R { s with heap := h, toks := tk } := by
  intro k
  induction k with
  | zero =>
    intro i h tk c acc as hk hi t t1 t2 hlo keep hS ha hl P
    obtain rfl : i = n := by omega
    refine codeAny_builtin PySem.F.entry_extend_loop ?_
    rw [Around.under_plainId PySem.F.plain_extend_loop _]
    refine wpAny_bind (nx_end (s := { s with heap := h, toks := tk }) (A := A.in1) hh D t t1 t2 n3 fun h' kk => wpAny_pure (hR h' tk acc c as (fun b o b1 b2 b3 b4 b5 e => kk b o b2 b3 b4 b5 (keep b o b1 b2 b3 b4 b5 e)) (kk S _ sz.symm sO.symm s1.symm s2.symm hS) hl (P.keep fun b o q e => kk b o (ne_lo q oz) (ne_lo q oO) (ne_lo q o1) (ne_lo q o2) e) ha))
  | succ k ih =>
    intro i h tk c acc as hk hi t t1 t2 hlo keep hS ha hl P
    have lt : i < n := by omega
    have sza : acc.size = i := by rw [← Array.length_toList, ha, List.length_map, hl]
    have hx : xs[i]? = some (xs[i]'(by omega)) := Array.getElem?_eq_getElem _
    have hy : ys[i]? = some (ys[i]'(by omega)) := Array.getElem?_eq_getElem _
    refine codeAny_builtin PySem.F.entry_extend_loop ?_
    rw [Around.under_plainId PySem.F.plain_extend_loop _]
    refine wpAny_bind (nx_item (s := { s with heap := h, toks := tk }) (A := A.in1) D t t1 t2 hx hy fun h' t' pr kk => ?_)
    dsimp only at pr kk ⊢
    have hS' := kk S _ sz.symm sO.symm s1.symm s2.symm hS
    have up : ∀ b o, b ≠ S → h'.get? b = some o → (h'.update S (Obj.mapSeq (·.push (Value.ref h.objs.size)))).get? b = some o := fun b o hb e => by
      rw [Heap.get?_update_other _ _ (Ne.symm hb)]; exact e
    have hSl : S < h.objs.size := Heap.lt_size hS
    have self := Heap.get?_update_self (Obj.mapSeq (·.push (Value.ref h.objs.size))) hS' rfl
    have pr2 := up _ _ (Nat.ne_of_gt hSl) pr
    have cc : ∀ {b : Addr}, lo ≤ b → b ≠ S ∧ b ≠ z ∧ b ≠ TO ∧ b ≠ a1 ∧ b ≠ a2 := fun {b} q => ⟨ne_lo q oS, ne_lo q oz, ne_lo q oO, ne_lo q o1, ne_lo q o2⟩
    refine wpAny_bind (show wpAny (model prog w) A.in1 (updateSeq S (·.push (Value.ref h.objs.size))) _ _ _ from ?_)
    refine wpAny_updateSeq hS' rfl (wpAny_pure ⟨plainId_quiet PySem.F.plain_extend_loop _, ih (i + 1) _ tk _ (acc.push (Value.ref h.objs.size)) (as ++ [h.objs.size]) (by omega) lt (t'.keep sz sI sO s1 s2 up fun b o e => ?_) ?_ ?_ ?_ (fun b o b1 b2 b3 b4 b5 e => up b o b1 (kk b o b2 b3 b4 b5 (keep b o b1 b2 b3 b4 b5 e))) self (by rw [Array.toList_push, ha, List.map_append]; rfl) (by rw [List.length_append, hl]; rfl) ⟨?_, ?_, ?_⟩⟩)
      (by rw [sza]; omega) (by show (acc.push (Value.ref h.objs.size)).size ≤ sizeLine + 1; rw [Array.size_push, sza]; omega)
    · by_cases hb : b = S
      · subst hb; exact ⟨_, self⟩
      · exact ⟨o, up b o hb e⟩
    · obtain ⟨o, e, q⟩ := t1
      exact ⟨o, up _ _ s3 (kk _ _ D.l1z D.l1TO D.l1i1 D.l1i2 e), q⟩
    · obtain ⟨o, e, q⟩ := t2
      exact ⟨o, up _ _ s4 (kk _ _ D.l2z D.l2TO D.l2i1 D.l2i2 e), q⟩
    · exact Nat.le_trans hlo (Nat.le_of_lt (Heap.lt_size pr2))
    · refine List.pairwise_append.mpr ⟨P.up, List.pairwise_singleton _ _, fun a ia b ib => ?_⟩
      rw [List.mem_singleton.mp ib]
      obtain ⟨j, hj⟩ := List.mem_iff_getElem?.mp ia
      obtain ⟨_, _, _, _, e⟩ := P.at_ j a hj
      exact Heap.lt_size e
    · intro a ia
      rcases List.mem_append.mp ia with ia | ia
      · exact P.lo a ia
      · rw [List.mem_singleton.mp ia]; exact hlo
    · intro j b hj
      rcases Nat.lt_trichotomy j as.length with q | q | q
      · rw [List.getElem?_append_left q] at hj
        obtain ⟨x, y, e1, e2, e3⟩ := P.at_ j b hj
        obtain ⟨c1, c2, c3, c4, c5⟩ := cc (P.lo b (List.mem_of_getElem? hj))
        exact ⟨x, y, e1, e2, up b _ c1 (kk b _ c2 c3 c4 c5 e3)⟩
      · subst q
        obtain rfl : h.objs.size = b := by simpa using hj
        subst hl
        exact ⟨_, _, hx, hy, pr2⟩
      · rw [List.getElem?_eq_none (by rw [List.length_append, List.length_singleton]; omega)] at hj
        cases hj
end
end TZ
/-! ### the rule -/
set_option maxHeartbeats 1000000
/-! ### its mirror -/
/-- what is wanted of an exception x with the slots S', the expression begun at these heaps -/
noncomputable def XWe (K : KG) (W : WX) (σ : St) (H F : Hp) (O : OW) (x : Exn) (S' : SS) : Prop :=
  ∀ cls d H' F' O', Stp H F O H' F' O' → Rp K H' F' O' σ S' → RepX K F' x cls d → W cls d σ H'
/-- an outcome: told, or an exception -/
noncomputable def Xo {α : Type} (K : KG) (W : WX) (σ : St) (H F : Hp) (O : OW) (r : R α) (k : α → SS → Prop) : Prop := match r with
  | .ok a S => k a S
  | .ex x S => XWe K W σ H F O x S
  | .no => False
section
variable {K : KG} {W : WX} {σ : St} {H F H1 F1 : Hp} {O O1 : OW} {α β : Type}
theorem Xo.bind {r : R α} {g : α → SS → R β} {k : β → SS → Prop} (h : Xo K W σ H F O (r.bind g) k) : Xo K W σ H F O r fun a S => Xo K W σ H F O (g a S) k := by
  cases r with
  | ok a S => exact h
  | ex x S => exact h
  | no => exact h
theorem Xo.mono {r : R α} {k k' : α → SS → Prop} (h : Xo K W σ H F O r k) (hk : ∀ a S, k a S → k' a S) : Xo K W σ H F O r k' := by
  cases r with
  | ok a S => exact hk _ _ h
  | ex x S => exact h
  | no => exact h
theorem Xo.from {r : R α} {k : α → SS → Prop} (st : Stp H F O H1 F1 O1) (h : Xo K W σ H F O r k) : Xo K W σ H1 F1 O1 r k := by
  cases r with
  | ok a S => exact h
  | ex x S => exact fun cls d H' F' O' st' => h cls d H' F' O' (st.trans st')
  | no => exact h
end
/-- no exception comes out of it -/
noncomputable def nx {α : Type} (f : SS → R α) : SS → R α := fun S => match f S with
  | .ok a S' => .ok a S'
  | _ => .no
section
variable {X : Cx} {W : WX} {e a b : Expr} {es : List Expr} {pos : Pos}
/-! ### what raises nothing -/
/-! ### expressions -/
/-! ### rows of arguments -/
/-! ### displays, subscripts, built-ins -/
end

noncomputable def XWs (K : KG) (kp : Nat → Bool) (W : WX) (σ : St) (H F : Hp) (O : OW) (x : Exn) (S' : SS) : Prop :=
  ∀ cls d σ' H' F' O', Stp H F O H' F' O' → Rp K H' F' O' σ' S' → Kp kp σ σ' → RepX K F' x cls d → W cls d σ' H'
noncomputable def Xs (K : KG) (kp : Nat → Bool) (W : WX) (D : Ends) (σ : St) (H F : Hp) (O : OW) (r : R Fl) : Prop := match r with
  | .ok fl S' => rdF K kp D σ H F O S' fl
  | .ex x S' => XWs K kp W σ H F O x S'
  | .no => False
section
variable {K : KG} {kp : Nat → Bool} {W : WX} {D : Ends} {σ σ1 : St} {H F H1 F1 : Hp} {O O1 : OW} {α : Type}
theorem XWs.from {x : Exn} {S' : SS} (h : XWs K kp W σ H F O x S') (st : Stp H F O H1 F1 O1) (k : Kp kp σ σ1) : XWs K kp W σ1 H1 F1 O1 x S' :=
  fun cls d σ' H' F' O' st' r' k' rx => h cls d σ' H' F' O' (st.trans st') r' (k.trans k') rx
theorem Xs.from {r : R Fl} (h : Xs K kp W D σ H F O r) (st : Stp H F O H1 F1 O1) (k : Kp kp σ σ1) : Xs K kp W D σ1 H1 F1 O1 r := by
  cases r with
  | ok fl S => exact rdF.from h st k
  | ex x S => exact XWs.from h st k
  | no => exact h
theorem XWs.we {x : Exn} {S' : SS} (h : XWs K kp W σ H F O x S') : XWe K W σ H F O x S' := fun cls d H' F' O' st r rx => h cls d σ H' F' O' st r (Kp.refl _ _) rx
/-- an expression, then the rest -/
theorem Xs.bind {r : R α} {g : α → SS → R Fl} (h : Xs K kp W D σ H F O (r.bind g)) : Xo K W σ H F O r fun a S => Xs K kp W D σ H F O (g a S) := by
  cases r with
  | ok a S => exact h
  | ex x S => exact XWs.we h
  | no => exact h
end
section
variable {X : Cx} {kp : Nat → Bool} {W : WX} {e a b : Expr} {pos : Pos} {st : Stmt} {rest sts : List Stmt} {f g : FS}
end

/-- what a def promises that may raise -/
noncomputable def spDx (K : KG) (np : Nat) (g : List M → CR) (vs : List V) (H : Hp) (E : XK) : Prop := ∃ F O ms x fin, vs.length = np ∧ ms.length = np ∧ Bs H F O ∧ (∀ p m, ms[p]? = some m → ∃ v, vs[p]? = some v ∧ RepM K H F O (.s p, []) v m) ∧ g ms = .ex x fin ∧
  ∀ cls d H' F' O', Stp H F O H' F' O' → Bs H' F' O' → RepX K F' x cls d → (∀ p m, fin[p]? = some (some m) → ∃ w, vs[p]? = some w ∧ RepM K H' F' O' (.s p, []) w m) → E cls d H'
noncomputable def spX (K : KG) (np : Nat) (g : List M → CR) : Sp := fun vs H Q E => spD K np g vs H Q E ∨ spDx K np g vs H E
/-- a def's promise, what it lets out lying as L2N has it -/
structure FnX (P : Program) (w : World) (K : PySem.W.Frag) (mg : Str → Option Value) (base : Heap) (k : Nat) (f : Addr) (fd : FuncData) (ps : List Str) (sp : Sp) : Prop where
  len : ∀ vs H Q E, sp vs H Q E → vs.length = ps.length
  run : ∀ (A : Around) (outer : List Env) (s : Shared) (H : Hp) (args : Args) (us : List Value) (vs : List V) (Q : VK) (E : XK), RoomG k A → Env0 P w K mg base A outer s H → BindsTo s fd args (ps.zip us) → Vals vs us → sp vs H Q E →
    codeAny (model P w) A (.call (.ref f) args) (L2.CR (L2N.CX P w) outer P w H s Q E) s
section
variable {X : Cx} {W : WX} {k : Nat} {f C : Addr} {fd : FuncData} {ps : List Str} {sp : Sp} {x m : Str} {p pos apos : Pos} {e o : Expr} {es : List Expr} {ta : TE} {t : TA}
end
/-! ### defs, methods, makers, by their names -/
structure FnDx (P : Program) (w : World) (K : PySem.W.Frag) (mg : Str → Option Value) (base : Heap) (n : Nat) (x : Str) (np : Nat) (g : List M → CR) : Prop where
  ex : ∃ (f : Addr) (fd : FuncData) (ps : List Str), ps.length = np ∧ FnX P w K mg base n f fd ps (spX (kg0 K mg) np g) ∧ mg x = some (.ref f) ∧ PySem.W.keepIn K (.ref f) = true ∧ Binds K fd ps []
structure FnMx (P : Program) (w : World) (K : PySem.W.Frag) (mg : Str → Option Value) (base : Heap) (n : Nat) (c m : Str) (np : Nat) (g : List M → CR) : Prop where
  ex : ∃ (C f : Addr) (fd : FuncData) (ps : List Str), mg c = some (.ref C) ∧ Cls K C ∧ Meth K C m f ∧ ps.length = np ∧ FnX P w K mg base n f fd ps (spX (kg0 K mg) np g) ∧ Binds K fd ps []
structure FnIx (P : Program) (w : World) (K : PySem.W.Frag) (mg : Str → Option Value) (base : Heap) (n : Nat) (c : Str) (np : Nat) (g : List M → CR) : Prop where
  ex : ∃ (C f : Addr), mg c = some (.ref C) ∧ Mk K C f ∧ ((∀ ms, g ms = .no) ∨ ∃ (k : Nat) (fd : FuncData) (ps : List Str), k + 1 = n ∧ ps.length = np ∧ FnX P w K mg base k f fd ps (spX (kg0 K mg) np g) ∧ Binds K fd ps [])
structure FnNx (P : Program) (w : World) (K : PySem.W.Frag) (mg : Str → Option Value) (base : Heap) (n : Nat) (c : Str) (np : Nat) (g : List M → CR) : Prop where
  ex : ∃ (C f : Addr) (fd : FuncData) (ps : List Str), mg c = some (.ref C) ∧ Mk K C f ∧ ps.length = np ∧ FnX P w K mg base n f fd ps (spX (kg0 K mg) np g) ∧ Binds K fd ps []
theorem FnNx.maker {P : Program} {w : World} {K : PySem.W.Frag} {mg : Str → Option Value} {base : Heap} {n np : Nat} {c : Str} {g : List M → CR} (h : FnNx P w K mg base n c np g) : FnIx P w K mg base (n + 1) c np g :=
  let ⟨C, f, fd, ps, h1, h2, h3, h4, h5⟩ := h.ex
  ⟨C, f, h1, h2, .inr ⟨n, fd, ps, rfl, h3, h4, h5⟩⟩
section
variable {X : Cx} {W : WX} {n np : Nat} {c m x : Str} {g : List M → CR} {p pos apos : Pos} {e o : Expr} {es : List Expr} {fe : FE} {fas : FA}
end
/-! ### a def that may raise -/
/-! ### __init__ of an own exception class: self.f = f for each param f, behind Base.__init__(self, text) -/
section
variable {X : Cx} {x : Str} {e : Expr} {es : List Expr} {ta : TA} {p1 p2 pos : Pos}
end
section
variable {P : Program} {w : World} {K : PySem.W.Frag} {mg : Str → Option Value} {base : Heap} {qual : Str} {st : Stmt} {f : Addr} {fd : FuncData} {k : Nat} {a0 n1 n2 t : Str}
end
/-! ### what is made -/
section
variable {X : Cx} {W : WX} {kp : Nat → Bool} {x : Str} {e : Expr} {es : List Expr} {ta : TA} {p pos : Pos} {ns : List Str} {n : Nat}
/-! ### classes without fields -/
end

/-! ### the library's rule, for clauses with and without a name -/
/-- where a clause stores the exception -/
noncomputable def hσ (nm : Option Nat) (a : Addr) (σ : St) : St := match nm with
  | some i => σ.set i (some (.ref a))
  | none => σ
/-- .. and forgets it -/
noncomputable def hω (nm : Option Nat) (σ : St) : St := match nm with
  | some i => σ.set i none
  | none => σ
/-- what stands behind «except» -/
inductive Spec1 (X : Cx) : Expr → List Value → Prop
  | one {x : Str} {c : Value} {p : Pos} (h : Names X x c) : Spec1 X (.Name x p) [c]
  | two {x y : Str} {c d : Value} {p q pos : Pos} {k : Nat} (h1 : Names X x c) (h2 : Names X y d) : Spec1 X (.Tuple [.Name x p, .Name y q] k pos) [c, d]
  | three {x y z : Str} {c d f : Value} {p q r pos : Pos} {k : Nat} (h1 : Names X x c) (h2 : Names X y d) (h3 : Names X z f) : Spec1 X (.Tuple [.Name x p, .Name y q, .Name z r] k pos) [c, d, f]
/-- the clause's name, and its slot -/
inductive NmOk (X : Cx) : Option Str → Option Nat → Prop
  | no : NmOk X none none
  | as {n : Str} {i : Nat} (hi : X.N[i]? = some n) (hl : X.env.kindOf n = some .local) : NmOk X (some n) (some i)
inductive HdX (X : Cx) : List ExceptHandler → List (List Value × Option Nat × (Addr → Value → Option Addr → TS)) → Prop
  | nil : HdX X [] []
  | cons {spec : Expr} {cs : List Value} {on : Option Str} {nm : Option Nat} {ts : Addr → Value → Option Addr → TS} {b₀ : Stmt} {suite : List Stmt} {pos' : Pos} {hds : List ExceptHandler} {l : List (List Value × Option Nat × (Addr → Value → Option Addr → TS))} (hc : Spec1 X spec cs) (hn : NmOk X on nm)
      (hsu : ∀ (a : Addr) (oe : Obj) (cls : Value) (d : Option Addr) (pn : List (Addr × Obj)), L2N.Zn cls d oe → (∃ vs, oe.data = .fields vs) → PSs (X.suite a ((a, oe) :: pn)) (b₀ :: suite) (ts a cls d)) (r : HdX X hds l) :
      HdX X (.ExceptHandler (some spec) on (b₀ :: suite) pos' :: hds) ((cs, nm, ts) :: l)
section
variable {X : Cx} {pn : List (Addr × Obj)} {σ : St} {H : Hp} {s' : Shared} {h3 : Heap} {t3 : Nat} {a : Addr} {oe : Obj} {cls : Value} {b : Bool}
end
section
variable {X : Cx} {body : List Stmt} {h₀ : ExceptHandler} {hds : List ExceptHandler} {l : List (List Value × Option Nat × (Addr → Value → Option Addr → TS))} {pos : Pos} {tb : WX → TS} {Wout : WX}
end

/-! ### a thing, the exception in hand forgotten -/
mutual
noncomputable def M.calm : M → M
  | .exn _ => .d .any
  | .seq ms => .seq (M.calms ms)
  | .box ms => .box (M.calms ms)
  | .ob c ns ms => .ob c ns (M.calms ms)
  | m => m
noncomputable def M.calms : List M → List M
  | [] => []
  | m :: ms => m.calm :: M.calms ms
end
mutual
theorem RepM.calmed {K K' : KG} {H F : Hp} {O : OW} (h1 : K.k = K'.k) (h2 : K.cl = K'.cl) : ∀ {m : M} {q : Pl} {v : V}, RepM K H F O q v m → RepM K' H F O q v m.calm
  | .d x, q, v, h => RepD.cx h1 h2 h
  | .lst ds, q, v, h => by
    obtain ⟨a, vs, e, ho, hh, r⟩ := h
    exact ⟨a, vs, e, ho, hh, r.cx h1 h2⟩
  | .dk kd, q, v, h => by
    obtain ⟨a, ks, vs, ds, e, ho, hh, el, r, ek⟩ := h
    exact ⟨a, ks, vs, ds, e, ho, hh, el, r.cx h1 h2, ek⟩
  | .dt kd, q, v, h => by
    obtain ⟨a, ks, vs, ds, e, ho, hh, el, r, ek⟩ := h
    exact ⟨a, ks, vs, ds, e, ho, hh, el, r.cx h1 h2, ek⟩
  | .seq ms, q, v, h => by
    obtain ⟨a, vs, e, ho, hh, r⟩ := h
    exact ⟨a, vs, e, ho, hh, RepMs.calmed h1 h2 r⟩
  | .box ms, q, v, h => by
    obtain ⟨a, vs, e, ht, r⟩ := h
    exact ⟨a, vs, e, ht, RepMs.calmed h1 h2 r⟩
  | .ob c ns ms, q, v, h => by
    obtain ⟨a, C, dx, vs, e, ho, hc, hh, el, r⟩ := h
    exact ⟨a, C, dx, vs, e, ho, h2 ▸ hc, hh, el, RepMs.calmed h1 h2 r⟩
  | .exn x, q, v, h => by
    obtain ⟨a, cls, d, e1, e2, r⟩ := h
    subst e2
    exact .any a
theorem RepMs.calmed {K K' : KG} {H F : Hp} {O : OW} (h1 : K.k = K'.k) (h2 : K.cl = K'.cl) : ∀ {ms : List M} {q : Pl} {n : Nat} {vs : List V}, RepMs K H F O q n vs ms → RepMs K' H F O q n vs (M.calms ms)
  | [], q, n, vs, h => h
  | m :: ms, q, n, vs, h => by
    obtain ⟨v, vs', e, h3, h4⟩ := h
    exact ⟨v, vs', e, RepM.calmed h1 h2 h3, RepMs.calmed h1 h2 h4⟩
end
mutual
/-- where nothing is handled there is no exception in hand -/
theorem RepM.up {K K' : KG} {H F : Hp} {O : OW} (h0 : K.xn = none) (h1 : K.k = K'.k) (h2 : K.cl = K'.cl) : ∀ {m : M} {q : Pl} {v : V}, RepM K H F O q v m → RepM K' H F O q v m
  | .d x, q, v, h => RepD.cx h1 h2 h
  | .lst ds, q, v, h => by
    obtain ⟨a, vs, e, ho, hh, r⟩ := h
    exact ⟨a, vs, e, ho, hh, r.cx h1 h2⟩
  | .dk kd, q, v, h => by
    obtain ⟨a, ks, vs, ds, e, ho, hh, el, r, ek⟩ := h
    exact ⟨a, ks, vs, ds, e, ho, hh, el, r.cx h1 h2, ek⟩
  | .dt kd, q, v, h => by
    obtain ⟨a, ks, vs, ds, e, ho, hh, el, r, ek⟩ := h
    exact ⟨a, ks, vs, ds, e, ho, hh, el, r.cx h1 h2, ek⟩
  | .seq ms, q, v, h => by
    obtain ⟨a, vs, e, ho, hh, r⟩ := h
    exact ⟨a, vs, e, ho, hh, RepMs.up h0 h1 h2 r⟩
  | .box ms, q, v, h => by
    obtain ⟨a, vs, e, ht, r⟩ := h
    exact ⟨a, vs, e, ht, RepMs.up h0 h1 h2 r⟩
  | .ob c ns ms, q, v, h => by
    obtain ⟨a, C, dx, vs, e, ho, hc, hh, el, r⟩ := h
    exact ⟨a, C, dx, vs, e, ho, h2 ▸ hc, hh, el, RepMs.up h0 h1 h2 r⟩
  | .exn x, q, v, h => by
    obtain ⟨a, cls, d, e1, e2, r⟩ := h
    rw [h0] at e1
    cases e1
theorem RepMs.up {K K' : KG} {H F : Hp} {O : OW} (h0 : K.xn = none) (h1 : K.k = K'.k) (h2 : K.cl = K'.cl) : ∀ {ms : List M} {q : Pl} {n : Nat} {vs : List V}, RepMs K H F O q n vs ms → RepMs K' H F O q n vs ms
  | [], q, n, vs, h => h
  | m :: ms, q, n, vs, h => by
    obtain ⟨v, vs', e, h3, h4⟩ := h
    exact ⟨v, vs', e, RepM.up h0 h1 h2 h3, RepMs.up h0 h1 h2 h4⟩
end
theorem RepX.cx {K K' : KG} {F : Hp} {x : Exn} {cls : Value} {d : Option Addr} (h1 : K.k = K'.k) (h2 : K.cl = K'.cl) (h : RepX K F x cls d) : RepX K' F x cls d := by
  obtain ⟨C, a1, a2, a3⟩ := h
  refine ⟨C, h2 ▸ a1, a2, ?_⟩
  rcases a3 with a3 | ⟨dd, ns, vs, ds, e1, e2, e3, e4, e5⟩
  · exact .inl a3
  · exact .inr ⟨dd, ns, vs, ds, e1, e2, e3, e4.cx h1 h2, e5⟩

/-! ### clauses -/
structure Hd where
  cs : List Str
  nm : Option Nat
  f : FS
/-- what is known of the classes: is the one the other, or above it? -/
noncomputable abbrev Isa := Str → Str → Option Bool
noncomputable def onS (nm : Option Nat) (x : Exn) (S : SS) : SS := match nm with
  | some i => S.set i (some (.exn x))
  | none => S
noncomputable def offS (nm : Option Nat) (S : SS) : SS := match nm with
  | some i => (S.map fun m => m.map M.calm).set i none
  | none => S.map fun m => m.map M.calm
noncomputable def R.hand {α : Type} (r : R α) (k : Exn → SS → R α) : R α := match r with
  | .ok a S => .ok a S
  | .ex x S => k x S
  | .no => .no
/-- the classes that stand behind «except» -/
inductive SpecN (X : Cx) : Expr → List Str → Prop
  | one {x : Str} {p : Pos} (h : Gl X x) (hd : (x == ("__debug__" : Str)) = false) : SpecN X (.Name x p) [x]
  | two {x y : Str} {p q pos : Pos} {k : Nat} (h : Gl X x) (hd : (x == ("__debug__" : Str)) = false) (h2 : Gl X y) (hd2 : (y == ("__debug__" : Str)) = false) : SpecN X (.Tuple [.Name x p, .Name y q] k pos) [x, y]
  | three {x y z : Str} {p q r pos : Pos} {k : Nat} (h : Gl X x) (hd : (x == ("__debug__" : Str)) = false) (h2 : Gl X y) (hd2 : (y == ("__debug__" : Str)) = false) (h3 : Gl X z) (hd3 : (z == ("__debug__" : Str)) = false) : SpecN X (.Tuple [.Name x p, .Name y q, .Name z r] k pos) [x, y, z]
theorem SpecN.spec {X : Cx} {spec : Expr} {cs : List Str} (h : SpecN X spec cs) {Cs : List Addr} (hC : ∀ (i : Nat) (c : Str), cs[i]? = some c → ∃ C, Cs[i]? = some C ∧ X.mg c = some (.ref C)) (hl : Cs.length = cs.length) : Spec1 X spec (Cs.map Value.ref) := by
  cases h with
  | one h hd =>
    match Cs, hl with
    | [C], _ =>
      obtain ⟨C', e1, e2⟩ := hC 0 _ rfl
      cases e1
      exact .one ⟨h, hd, .inl e2⟩
  | two h hd h2 hd2 =>
    match Cs, hl with
    | [C, D], _ =>
      obtain ⟨C', e1, e2⟩ := hC 0 _ rfl
      cases e1
      obtain ⟨D', e3, e4⟩ := hC 1 _ rfl
      cases e3
      exact .two ⟨h, hd, .inl e2⟩ ⟨h2, hd2, .inl e4⟩
  | three h hd h2 hd2 h3 hd3 =>
    match Cs, hl with
    | [C, D, E], _ =>
      obtain ⟨C', e1, e2⟩ := hC 0 _ rfl
      cases e1
      obtain ⟨D', e3, e4⟩ := hC 1 _ rfl
      cases e3
      obtain ⟨D', e5, e6⟩ := hC 2 _ rfl
      cases e5
      exact .three ⟨h, hd, .inl e2⟩ ⟨h2, hd2, .inl e4⟩ ⟨h3, hd3, .inl e6⟩
/-- all the classes that are named are there -/
noncomputable def ClsG (mg : Str → Option Value) (cs : List Str) : Prop := ∀ c ∈ cs, ∃ C : Addr, mg c = some (.ref C)
inductive HdOk (X : Cx) (kp : Nat → Bool) : List ExceptHandler → List Hd → Prop
  | nil : HdOk X kp [] []
  | cons {spec : Expr} {cs : List Str} {on : Option Str} {nm : Option Nat} {f : FS} {b₀ : Stmt} {suite : List Stmt} {pos' : Pos} {hds : List ExceptHandler} {l : List Hd} (hc : SpecN X spec cs) (hC : ClsG X.mg cs) (hn : NmOk X on nm) (hk : ∀ i, nm = some i → kp i = false)
      (hsu : ∀ (a : Addr) (oe : Obj) (pn : List (Addr × Obj)), (∃ vs, oe.data = .fields vs) → DSs (X.suite a ((a, oe) :: pn)) kp f (b₀ :: suite)) (r : HdOk X kp hds l) :
      HdOk X kp (.ExceptHandler (some spec) on (b₀ :: suite) pos' :: hds) (⟨cs, nm, f⟩ :: l)
/-- a class's place -/
noncomputable def adr (mg : Str → Option Value) (c : Str) : Addr := (clsOf mg c).getD 0
theorem adr_of {mg : Str → Option Value} {c : Str} (h : ∃ C : Addr, mg c = some (.ref C)) : mg c = some (.ref (adr mg c)) := by
  obtain ⟨C, h⟩ := h
  unfold adr
  rw [clsOf_ref h]
  exact h
/-- the suite's heap context -/
noncomputable abbrev kgS (X : Cx) (a : Addr) (cls : Value) (d : Option Addr) : KG := ⟨X.K, clsOf X.mg, some (a, cls, d)⟩
noncomputable def wOf (X : Cx) (kp : Nat → Bool) : List Hd → List (List Value × Option Nat × (Addr → Value → Option Addr → TS))
  | [] => []
  | h :: hs => (h.cs.map fun c => Value.ref (adr X.mg c), h.nm, fun a cls d => rdS (kgS X a cls d) kp h.f) :: wOf X kp hs
theorem HdOk.hdx {X : Cx} {kp : Nat → Bool} {hds : List ExceptHandler} {l : List Hd} (h : HdOk X kp hds l) : HdX X hds (wOf X kp l) := by
  induction h with
  | nil => exact .nil
  | @cons spec cs on nm f b₀ suite pos' hds l hc hC hn hk hsu r ih =>
    have s1 : Spec1 X spec ((cs.map (adr X.mg)).map Value.ref) := hc.spec (fun i c e => ⟨adr X.mg c, by simp [e], adr_of (hC c (List.mem_of_getElem? e))⟩) (by simp)
    rw [List.map_map] at s1
    refine .cons s1 hn (fun a oe cls d pn hz hd => ?_) ih
    have ek : kg (X.suite a ((a, oe) :: pn)) = kgS X a cls d := by obtain ⟨h1, h2, _⟩ := hz; show (⟨X.K, clsOf X.mg, some (a, oe.cls, oe.dict)⟩ : KG) = _; rw [h1, h2]
    exact ek ▸ hsu a oe pn hd
section
variable {X : Cx} {kp : Nat → Bool} {isa : Isa} {W : WX}
theorem SS.at_map {S : SS} {g : M → M} {i : Nat} {m : M} (h : SS.at (S.map fun o => o.map g) i = some m) : ∃ m0, S.at i = some m0 ∧ m = g m0 := by
  unfold SS.at at h ⊢
  rw [List.getElem?_map] at h
  cases e : S[i]? with
  | none => rw [e] at h; cases h
  | some o =>
    rw [e] at h
    cases o with
    | none => cases h
    | some m0 => cases h; exact ⟨m0, rfl, rfl⟩
theorem Rp.on {K K' : KG} {H F : Hp} {O : OW} {σ : St} {S : SS} {a : Addr} {cls : Value} {d : Option Addr} {x : Exn} {nm : Option Nat} (h0 : K.xn = none) (h1 : K.k = K'.k) (h2 : K.cl = K'.cl) (h3 : K'.xn = some (a, cls, d)) (rx : RepX K F x cls d) (r : Rp K H F O σ S) :
    Rp K' H F O (hσ nm a σ) (onS nm x S) := by
  have base : Rp K' H F O σ S := ⟨r.bs, r.len, fun i m e => by
    obtain ⟨v, hv, rm⟩ := r.sl i m e
    exact ⟨v, hv, rm.up h0 h1 h2⟩⟩
  cases nm with
  | none => exact base
  | some i =>
    refine ⟨r.bs, by show (S.set i _).length = (σ.set i _).length; rw [List.length_set, List.length_set]; exact r.len, fun j m e => ?_⟩
    rcases SS.at_set e with ⟨e1, e2⟩ | ⟨ne, e⟩
    · subst e1
      cases e2
      have hl : i < σ.length := by
        rw [← r.len]
        unfold SS.at at e
        by_cases z : i < S.length
        · exact z
        · rw [List.getElem?_eq_none (by show (S.set i _).length ≤ i; rw [List.length_set]; omega)] at e; cases e
      exact ⟨.ref a, by show (σ.set i _)[i]? = _; rw [List.getElem?_set_self hl], a, cls, d, h3, rfl, rx.cx h1 h2⟩
    · obtain ⟨v, hv, rm⟩ := base.sl j m e
      exact ⟨v, by show (σ.set i _)[j]? = _; rw [List.getElem?_set_ne ne]; exact hv, rm⟩
theorem Rp.off {K K' : KG} {H F : Hp} {O : OW} {σ : St} {S : SS} {nm : Option Nat} (h1 : K.k = K'.k) (h2 : K.cl = K'.cl) (r : Rp K H F O σ S) : Rp K' H F O (hω nm σ) (offS nm S) := by
  have base : Rp K' H F O σ (S.map fun m => m.map M.calm) := ⟨r.bs, by rw [List.length_map]; exact r.len, fun i m e => by
    obtain ⟨m0, e0, rfl⟩ := SS.at_map e
    obtain ⟨v, hv, rm⟩ := r.sl i m0 e0
    exact ⟨v, hv, rm.calmed h1 h2⟩⟩
  cases nm with
  | none => exact base
  | some i => exact base.over
theorem Kp.on {σ σ' : St} {nm : Option Nat} {a : Addr} (h : Kp kp (hσ nm a σ) σ') (hk : ∀ i, nm = some i → kp i = false) : Kp kp σ (hω nm σ') := by
  cases nm with
  | none => exact h
  | some i =>
    have h : Kp kp (σ.set i (some (.ref a))) σ' := h
    exact ((Kp.set (hk i rfl)).trans h).trans (Kp.set (hk i rfl))
end

/-- c is an exception's class, as isinstance and fields ask it -/
structure ExcF (K : PySem.W.Frag) (mg : Str → Option Value) (c : Str) : Prop where
  ex : ∃ C : Addr, mg c = some (.ref C) ∧ ExcC K C
structure FldF (K : PySem.W.Frag) (mg : Str → Option Value) (c f : Str) : Prop where
  ex : ∃ C : Addr, mg c = some (.ref C) ∧ PySem.W.findIn K (.ref C) f = some none
structure IsbF (K : PySem.W.Frag) (mg : Str → Option Value) (c : Str) (T : String) (b : Bool) : Prop where
  ex : ∃ C : Addr, mg c = some (.ref C) ∧ PySem.W.kitOne K (.ref C) (.type T) = some b
/-- what is known of the classes whose exceptions may be in hand -/
structure XcG (K : PySem.W.Frag) (mg : Str → Option Value) (cs : List Str) : Prop where
  ex : ∀ c ∈ cs, ExcF K mg c
noncomputable def FlG (K : PySem.W.Frag) (mg : Str → Option Value) (xf : List (Str × Str)) : Prop := ∀ p ∈ xf, FldF K mg p.1 p.2
noncomputable def IsbG (K : PySem.W.Frag) (mg : Str → Option Value) (xb : List (Str × String × Bool)) : Prop := ∀ p ∈ xb, IsbF K mg p.1 p.2.1 p.2.2
section
variable {X : Cx} {a : Addr} {oe : Obj} {pn : List (Addr × Obj)} {e : Expr} {pos : Pos}
/-! ### e.f -/
/-! ### isinstance(e, ..) -/
variable {isa : Isa} {cs : List Str} {i : Nat} {p : Pos}
end

noncomputable def R.wpx0 {α : Type} (r : R α) (Q : α → SS → Prop) (E : Exn → SS → Prop) : Prop := match r with
  | .ok a S => Q a S
  | .ex x S => E x S
  | .no => False
noncomputable def CR.wpx0 (r : CR) (Q : M → List (Option M) → Prop) (E : Exn → List (Option M) → Prop) : Prop := match r with
  | .ok a S => Q a S
  | .ex x S => E x S
  | .no => False
@[irreducible] noncomputable def R.wpx {α : Type} (r : R α) (Q : α → SS → Prop) (E : Exn → SS → Prop) (_ : Ph Q := ⟨⟩) : Prop := R.wpx0 r Q E
@[irreducible] noncomputable def CR.wpx (r : CR) (Q : M → List (Option M) → Prop) (E : Exn → List (Option M) → Prop) (_ : Ph Q := ⟨⟩) : Prop := CR.wpx0 r Q E
section
variable {α β : Type}
theorem R.wpx_eq (r : R α) (Q : α → SS → Prop) (E : Exn → SS → Prop) (p : Ph Q) : R.wpx r Q E p = R.wpx0 r Q E := by unfold R.wpx; rfl
theorem CR.wpx_eq (r : CR) (Q : M → List (Option M) → Prop) (E : Exn → List (Option M) → Prop) (p : Ph Q) : CR.wpx r Q E p = CR.wpx0 r Q E := by unfold CR.wpx; rfl
@[simp] theorem wpx_ok (a : α) (S : SS) (Q : α → SS → Prop) (E : Exn → SS → Prop) : R.wpx (.ok a S) Q E = Q a S := by rw [R.wpx_eq]; rfl
@[simp] theorem wpx_ex (x : Exn) (S : SS) (Q : α → SS → Prop) (E : Exn → SS → Prop) : R.wpx (.ex x S) Q E = E x S := by rw [R.wpx_eq]; rfl
@[simp] theorem wpx_no (Q : α → SS → Prop) (E : Exn → SS → Prop) : R.wpx .no Q E = False := by rw [R.wpx_eq]; rfl
@[simp] theorem cwpx_ok (a : M) (S : List (Option M)) (Q : M → List (Option M) → Prop) (E : Exn → List (Option M) → Prop) : CR.wpx (.ok a S) Q E = Q a S := by rw [CR.wpx_eq]; rfl
@[simp] theorem cwpx_ex (x : Exn) (S : List (Option M)) (Q : M → List (Option M) → Prop) (E : Exn → List (Option M) → Prop) : CR.wpx (.ex x S) Q E = E x S := by rw [CR.wpx_eq]; rfl
@[simp] theorem cwpx_no (Q : M → List (Option M) → Prop) (E : Exn → List (Option M) → Prop) : CR.wpx .no Q E = False := by rw [CR.wpx_eq]; rfl
@[simp] theorem wpx_bind (r : R α) (f : α → SS → R β) (Q : β → SS → Prop) (E : Exn → SS → Prop) : R.wpx (r.bind f) Q E = R.wpx r (fun a S => R.wpx (f a S) Q E) E := by
  cases r with
  | ok a S => rw [bind_ok, wpx_ok]
  | ex _ _ => rw [bind_ex, wpx_ex, wpx_ex]
  | no => rw [bind_no, wpx_no, wpx_no]
@[simp] theorem wpx_nx (f : SS → R α) (S : SS) (Q : α → SS → Prop) (E : Exn → SS → Prop) : R.wpx (nx f S) Q E = R.wp (f S) Q := by
  unfold nx
  cases f S with
  | ok a S => rw [wpx_ok, wp_ok]
  | ex _ _ => rw [wpx_no, wp_ex]
  | no => rw [wpx_no, wp_no]
@[simp] theorem wp_nx (f : SS → R α) (S : SS) (Q : α → SS → Prop) : R.wp (nx f S) Q = R.wp (f S) Q := by
  unfold nx
  cases f S with
  | ok a S => rfl
  | ex _ _ => rw [wp_no, wp_ex]
  | no => rfl
end
@[simp] theorem toR_ex (x : Exn) (S : List (Option M)) (h : List (Option M) → SS) : CR.toR (.ex x S) h = .ex x (h S) := (rfl)
@[simp] theorem wpx_toR (c : CR) (h : List (Option M) → SS) (Q : M → SS → Prop) (E : Exn → SS → Prop) : R.wpx (c.toR h) Q E = c.wpx (fun r fin => Q r (h fin)) (fun x fin => E x (h fin)) := by rw [R.wpx_eq, CR.wpx_eq]; cases c <;> rfl
@[simp] theorem wpx_hand {α : Type} (r : R α) (k : Exn → SS → R α) (Q : α → SS → Prop) (E : Exn → SS → Prop) : R.wpx (r.hand k) Q E = R.wpx r Q (fun x S => R.wpx (k x S) Q E) := by
  cases r with
  | ok a S => show R.wpx (.ok a S) Q E = _; rw [wpx_ok, wpx_ok]
  | ex x S => show R.wpx (k x S) Q E = _; rw [wpx_ex]
  | no => show R.wpx .no Q E = _; rw [wpx_no, wpx_no]
@[simp] theorem wp_hand {α : Type} (r : R α) (k : Exn → SS → R α) (Q : α → SS → Prop) : R.wp (r.hand k) Q = R.wpx r Q (fun x S => R.wp (k x S) Q) := by
  cases r with
  | ok a S => show R.wp (.ok a S) Q = _; rw [wp_ok, wpx_ok]
  | ex x S => show R.wp (k x S) Q = _; rw [wpx_ex]
  | no => show R.wp .no Q = _; rw [wp_no, wpx_no]
@[simp] theorem onS_some (i : Nat) (x : Exn) (S : SS) : onS (some i) x S = S.set i (some (.exn x)) := (rfl)
@[simp] theorem onS_none (x : Exn) (S : SS) : onS none x S = S := (rfl)
@[simp] theorem offS_some (i : Nat) (S : SS) : offS (some i) S = (S.map fun m => m.map M.calm).set i none := (rfl)
@[simp] theorem offS_none (S : SS) : offS none S = S.map fun m => m.map M.calm := (rfl)
@[simp] theorem calm_d (x : D) : M.calm (.d x) = .d x := (rfl)
@[simp] theorem calm_lst (x : List D) : M.calm (.lst x) = .lst x := (rfl)
@[simp] theorem calm_dk (x : List (Key × D)) : M.calm (.dk x) = .dk x := (rfl)
@[simp] theorem calm_dt (x : List (List Key × D)) : M.calm (.dt x) = .dt x := (rfl)
@[simp] theorem calm_seq (x : List M) : M.calm (.seq x) = .seq (M.calms x) := (rfl)
@[simp] theorem calm_box (x : List M) : M.calm (.box x) = .box (M.calms x) := (rfl)
@[simp] theorem calm_ob (c : Str) (ns : List Str) (x : List M) : M.calm (.ob c ns x) = .ob c ns (M.calms x) := (rfl)
@[simp] theorem calm_exn (x : Exn) : M.calm (.exn x) = .d .any := (rfl)
@[simp] theorem calms_nil : M.calms [] = [] := (rfl)
@[simp] theorem calms_cons (m : M) (ms : List M) : M.calms (m :: ms) = m.calm :: M.calms ms := (rfl)
@[simp] theorem own_exn (x : Exn) : M.own (.exn x) = false := (rfl)
@[simp] theorem toD_exn (x : Exn) : M.toD (.exn x) = .any := (rfl)
/-! ### a body's end; loops -/
/-- no exception comes out of the call -/
noncomputable def nxc (g : List M → CR) : List M → CR := fun ms => match g ms with
  | .ok m fin => .ok m fin
  | _ => .no
theorem nxc_ok {g : List M → CR} {ms : List M} {r : M} {fin : List (Option M)} (h : nxc g ms = .ok r fin) : g ms = .ok r fin := by
  unfold nxc at h
  cases e : g ms with
  | ok a b => rw [e] at h; cases h; rfl
  | ex a b => rw [e] at h; cases h
  | no => rw [e] at h; cases h
@[simp] theorem cwp_nxc (g : List M → CR) (ms : List M) (Q : M → List (Option M) → Prop) : CR.wp (nxc g ms) Q = CR.wp (g ms) Q := by
  unfold nxc
  cases e : g ms with
  | ok a b => rfl
  | ex a b => rw [CR.wp_eq, CR.wp_eq]; rfl
  | no => rfl
section
variable {P : Program} {w : World} {K : PySem.W.Frag} {mg : Str → Option Value} {base : Heap} {k n np : Nat} {f : Addr} {fd : FuncData} {ps : List Str} {x c m : Str} {g : List M → CR} {KK : KG}
theorem FnX.plain (F : FnX P w K mg base k f fd ps (spX KK np g)) : FnG P w K mg base k f fd ps (spD KK np (nxc g)) := by
  have up : ∀ vs H Q, (∃ E, spD KK np (nxc g) vs H Q E) → spX KK np g vs H Q (fun _ _ _ => False) := fun vs H Q ⟨E, F', O, ms, r, fin, h1, h2, h3, h4, h5, h6⟩ => .inl ⟨F', O, ms, r, fin, h1, h2, h3, h4, nxc_ok h5, h6⟩
  refine ⟨fun vs H Q E h => F.len vs H Q _ (up vs H Q ⟨E, h⟩), fun A outer s H args us vs Q E hr he hb hv hs => codeAny_mono (F.run A outer s H args us vs Q _ hr he hb hv (up vs H Q ⟨E, hs⟩)) fun r s' hq => ?_⟩
  cases r with
  | ok fl => cases fl <;> exact hq
  | error e =>
    obtain ⟨_, _, _, _, _, _, _, _, _, _, _, _, h⟩ := hq
    exact h.elim
theorem FnDx.plain (F : FnDx P w K mg base n x np g) : FnD P w K mg base n x np (nxc g) :=
  let ⟨f, fd, ps, h1, h2, h3, h4, h5⟩ := F.ex
  ⟨f, fd, ps, h1, h2.plain, h3, h4, h5⟩
theorem FnMx.plain (F : FnMx P w K mg base n c m np g) : FnM P w K mg base n c m np (nxc g) :=
  let ⟨C, f, fd, ps, h1, h2, h3, h4, h5, h6⟩ := F.ex
  ⟨C, f, fd, ps, h1, h2, h3, h4, h5.plain, h6⟩
theorem FnIx.plain (F : FnIx P w K mg base n c np g) : FnI P w K mg base n c np (nxc g) := by
  obtain ⟨C, f, h1, h2, h3⟩ := F.ex
  rcases h3 with h | ⟨k, fd, ps, e1, e2, e3, e4⟩
  · exact ⟨.inl fun ms => by unfold nxc; rw [h ms]⟩
  · exact ⟨.inr ⟨k, C, f, fd, ps, e1, h1, h2, e2, e3.plain, e4⟩⟩
end
section
variable {K : PySem.W.Frag} {mg : Str → Option Value} {C D : Addr} {c d : Str} {b : Bool}
end
theorem FlG.nil {K : PySem.W.Frag} {mg : Str → Option Value} : FlG K mg [] := fun _ h => nomatch h
theorem FlG.cons {K : PySem.W.Frag} {mg : Str → Option Value} {c f : Str} {r : List (Str × Str)} (h : FldF K mg c f) (h2 : FlG K mg r) : FlG K mg ((c, f) :: r) := fun p hp => by
  rcases List.mem_cons.mp hp with rfl | hp
  · exact h
  · exact h2 p hp
theorem IsbG.nil {K : PySem.W.Frag} {mg : Str → Option Value} : IsbG K mg [] := fun _ h => nomatch h
theorem IsbG.cons {K : PySem.W.Frag} {mg : Str → Option Value} {c : Str} {T : String} {b : Bool} {r : List (Str × String × Bool)} (h : IsbF K mg c T b) (h2 : IsbG K mg r) : IsbG K mg ((c, T, b) :: r) := fun p hp => by
  rcases List.mem_cons.mp hp with rfl | hp
  · exact h
  · exact h2 p hp
theorem XcG.nil {K : PySem.W.Frag} {mg : Str → Option Value} : XcG K mg [] := ⟨fun _ h => nomatch h⟩
theorem XcG.cons {K : PySem.W.Frag} {mg : Str → Option Value} {c : Str} {r : List Str} (h : ExcF K mg c) (h2 : XcG K mg r) : XcG K mg (c :: r) := ⟨fun p hp => by
  rcases List.mem_cons.mp hp with rfl | hp
  · exact h
  · exact h2.ex p hp⟩
theorem ClsG.nil {mg : Str → Option Value} : ClsG mg [] := fun _ h => nomatch h
theorem ClsG.cons {mg : Str → Option Value} {c : Str} {C : Addr} {r : List Str} (h : mg c = some (.ref C)) (h2 : ClsG mg r) : ClsG mg (c :: r) := fun p hp => by
  rcases List.mem_cons.mp hp with rfl | hp
  · exact ⟨C, h⟩
  · exact h2 p hp
/-! ### the rows of classes: a tuple of their names -/
section
variable {X : Cx} {mg : Str → Option Value}
end

section
variable {X : Cx} {pins : List (Addr × Obj)} {s : Shared} {σ : St} {H F : Hp}
end
section
variable {X : Cx}
end
section
variable {prog : Program} {w : World} {A : Around} {E : Value → Shared → Prop} {s : Shared}
end
section
variable {X : Cx}
end
section
variable {X : Cx} {kp : Nat → Bool} {e : Expr} {pos pt : Pos} {x y : Str} {px py ps : Pos} {kt : Nat}
end
/-- where a parameter's value comes from: the i-th positional one, the i-th keyword's, the i-th default that lacks (a constant) -/
inductive Arr | p (i : Nat) | k (i : Nat) | c (i : Nat) (d : D)
noncomputable def cV : D → V
  | .int i => .int i
  | .str x => .str x
  | .bl b => .bl b
  | _ => .non
noncomputable def arV1 (vs zs : List V) : Arr → List V
  | .p i => vs[i]?.toList
  | .k i => zs[i]?.toList
  | .c _ d => [cV d]
noncomputable def arV (as : List Arr) (vs zs : List V) : List V := as.flatMap (arV1 vs zs)
/-- a way to call -/
structure KBx (K : PySem.W.Frag) (fd : FuncData) (ps : List Str) (n : Nat) (ks : List Str) (as : List Arr) : Prop where
  ex : ∃ g, KBn K fd ps n ks g (arV as)
theorem PK.imp {X : Cx} {kws : List Keyword} {t t' : TA} (h : PK X kws t) (hm : ∀ σ H Q, t' σ H Q → t σ H Q) : PK X kws t' := ⟨fun pos pins s σ H Q I q => h.run pos pins s σ H Q I (hm σ H Q q)⟩
section
variable {X : Cx} {e : Expr} {kws : List Keyword} {kpos : Pos} {nm : Option Str}
end
/-- a def with keyword-only parameters: ways tells how it may be called -/
structure FnK (P : Program) (w : World) (K : PySem.W.Frag) (mg : Str → Option Value) (base : Heap) (n : Nat) (x : Str) (np : Nat) (ways : List (Nat × List Str × List Arr)) (g : List M → CR) : Prop where
  ex : ∃ (f : Addr) (fd : FuncData) (ps : List Str), ps.length = np ∧ FnG P w K mg base n f fd ps (spD (kg0 K mg) np g) ∧ mg x = some (.ref f) ∧ PySem.W.keepIn K (.ref f) = true ∧ ∀ q ∈ ways, KBx K fd ps q.1 q.2.1 q.2.2
structure FnKx (P : Program) (w : World) (K : PySem.W.Frag) (mg : Str → Option Value) (base : Heap) (n : Nat) (x : Str) (np : Nat) (ways : List (Nat × List Str × List Arr)) (g : List M → CR) : Prop where
  ex : ∃ (f : Addr) (fd : FuncData) (ps : List Str), ps.length = np ∧ FnX P w K mg base n f fd ps (spX (kg0 K mg) np g) ∧ mg x = some (.ref f) ∧ PySem.W.keepIn K (.ref f) = true ∧ ∀ q ∈ ways, KBx K fd ps q.1 q.2.1 q.2.2
theorem FnKx.plain {P : Program} {w : World} {K : PySem.W.Frag} {mg : Str → Option Value} {base : Heap} {n np : Nat} {x : Str} {ways : List (Nat × List Str × List Arr)} {g : List M → CR} (F : FnKx P w K mg base n x np ways g) : FnK P w K mg base n x np ways (nxc g) :=
  let ⟨f, fd, ps, h1, h2, h3, h4, h5⟩ := F.ex
  ⟨f, fd, ps, h1, h2.plain, h3, h4, h5⟩
section
variable {X : Cx} {W : WX} {k n np : Nat} {f : Addr} {fd : FuncData} {ps ks : List Str} {sp : Sp} {E : XK} {x : Str} {p pos : Pos} {e : Expr} {es : List Expr} {kws : List Keyword} {t tk : TA} {g : List Value → List Value → List Value} {gV : List V → List V → List V}
end
section
variable {X : Cx} {f : Value → Value → Sem Value}
end
/-! ### sorted(xs), xs a row of tuples -/
section
variable {X : Cx} {pins : List (Addr × Obj)} {s : Shared} {σ : St} {H F : Hp}
end
section
variable {X : Cx} {pins : List (Addr × Obj)} {s : Shared} {σ : St} {H F : Hp}
end
section
variable {X : Cx}
end
/-! ### x.f, x owned: x is kept as it stands from here on -/
section
variable {X : Cx} {o : Expr} {pos : Pos}
end
section
variable {X : Cx} {e o i : Expr} {pos spos : Pos} {kp : Nat → Bool} {j : Nat} {f fi : FE} {g : FG}
end
/-! ### x.count(e) -/
section
variable {X : Cx} {o e : Expr} {apos cpos : Pos} {j : Nat} {f : FE}
variable {ci : M → Option Nat}
end
/-! ### max([..]), {} not in [texts] -/
section
variable {X : Cx}
end
section
open PySem.SeqAt MeetsSeq AutoSeq1
end
section
open PySem.SeqAt MeetsSeq AutoSeq1
variable {X : Cx}
end
/-- what is under one part of a slot's thing goes to the result -/
noncomputable def tkO (j k : Nat) (O : OW) : OW := fun a => match O a with
  | some (.s i, p) => if i = j ∧ p.head? = some k then some (.r, p.tail) else some (.s i, p)
  | x => x
theorem tkO_out {O : OW} {j k : Nat} {a : Addr} {z : Rt} {s : List Nat} (h : O a = some (z, s)) (hn : z = .s j → s.head? ≠ some k) : tkO j k O a = some (z, s) := by
  unfold tkO
  rw [h]
  cases z with
  | s i =>
    dsimp only
    rw [if_neg]
    rintro ⟨rfl, e⟩
    exact hn rfl e
  | r => rfl
theorem RepMs.drop {K : KG} {H F : Hp} {O : OW} {j kk : Nat} {b : Addr} : ∀ {ms : List M} {n i : Nat} {vs : List V}, RepMs K H F O (.s j, []) n vs ms → n + i = kk → vs[i]? = some (.ref b) → RepMs K H F (tkO j kk O) (.s j, []) n vs (ms.set i (.d .any))
  | [], n, i, vs, h, e, hv => by
    rw [show vs = [] from h] at hv
    simp at hv
  | m :: ms, n, 0, vs, h, e, hv => by
    obtain ⟨v, vs', rfl, h1, h2⟩ := h
    cases hv
    refine ⟨.ref b, vs', rfl, RepD.any b, ?_⟩
    have far : ∀ {ms : List M} {n' : Nat} {vs : List V}, n < n' → RepMs K H F O (.s j, []) n' vs ms → RepMs K H F (tkO j kk O) (.s j, []) n' vs ms := by
      intro ms
      induction ms with
      | nil => intro n' vs _ h; exact h
      | cons x ms ih =>
        intro n' vs hl h
        obtain ⟨v, vs', rfl, h1, h2⟩ := h
        refine ⟨v, vs', rfl, ?_, ih (by omega) h2⟩
        have h1 : RepM K H F O (.s j, [n'] ++ []) v x := h1
        exact RepM.rel (z' := .s j) (p1 := [n']) (Le.refl _) (fun a o s e1 e2 => ⟨e2, tkO_out e1 fun _ => by simp; omega⟩) h1
    exact far (Nat.lt_succ_self n) h2
  | m :: ms, n, i + 1, vs, h, e, hv => by
    obtain ⟨v, vs', rfl, h1, h2⟩ := h
    refine ⟨v, vs', rfl, ?_, RepMs.drop h2 (by omega) hv⟩
    have h1 : RepM K H F O (.s j, [n] ++ []) v m := h1
    exact RepM.rel (z' := .s j) (p1 := [n]) (Le.refl _) (fun a o s e1 e2 => ⟨e2, tkO_out e1 fun _ => by simp; omega⟩) h1
section
variable {X : Cx} {e : Expr} {j : Nat} {c f : Str}
end
theorem Rp.push {K : KG} {H F : Hp} {O : OW} {σ : St} {S : SS} {v : V} {m : M} (r : Rp K H F O σ S) (rm : RepM K H F O (.r, []) v m) : Rp K H F (mvO .r (.s S.length) O) (σ ++ [some v]) (S ++ [some m]) := by
  have hlen := r.len
  refine ⟨mv_bs r.bs, by rw [List.length_append, List.length_append, hlen]; rfl, fun i mm hi => ?_⟩
  unfold SS.at at hi
  by_cases hlt : i < S.length
  · rw [List.getElem?_append_left hlt] at hi
    obtain ⟨w, hw, rw'⟩ := r.sl i mm hi
    refine ⟨w, by rw [List.getElem?_append_left (by rw [← hlen]; exact hlt)]; exact hw, mv_other rw' (fun z => by cases z) (fun z => ?_)⟩
    injection z with z
    exact absurd z (Nat.ne_of_lt hlt)
  · have : i = S.length := by
      cases e : (S ++ [some m])[i]? with
      | none => rw [e] at hi; cases hi
      | some z =>
        have := (List.getElem?_eq_some_iff.mp e).1
        rw [List.length_append, List.length_singleton] at this
        omega
    subst this
    rw [List.getElem?_append_right (Nat.le_refl _), Nat.sub_self] at hi
    cases hi
    exact ⟨v, by rw [hlen, List.getElem?_append_right (Nat.le_refl _), Nat.sub_self]; rfl, mv_rep rm⟩
section
variable {X : Cx} {o e : Expr} {c m : Str} {g : List M → CR} {fe : FE} {fm : FM} {n : Nat} {pos apos : Pos}
end
section
variable {X : Cx} {o e : Expr} {apos cpos : Pos} {j : Nat} {f : FE}
end
/-! ### t == () of any tuple -/
section
variable {X : Cx}
end
section
variable {X : Cx} {pins : List (Addr × Obj)} {s : Shared} {σ : St} {H F : Hp}
end
section
variable {X : Cx} {pins : List (Addr × Obj)} {s : Shared} {σ : St} {H F : Hp}
end
section
open PySem.SeqAt MeetsSeq AutoSeq1
variable {X : Cx}
end
section
variable {X : Cx} {e a b o i f : Expr} {pos apos cpos : Pos}
/-! ### d[k] = v -/
/-! ### d.setdefault(k, v) -/
end
section
variable {X : Cx} {kp : Nat → Bool} {a b c : Expr} {pos : Pos}
end
section
variable {X : Cx} {o : Expr} {apos cpos pos p : Pos}
end
section
variable {X : Cx} {x : Str} {e : Expr} {es : List Expr} {ta : TA} {p pos : Pos} {ns : List Str} {n : Nat}
/-! ### its fields, its classes -/
end
theorem PSsT.imp {X : Cx} {sts : List Stmt} {t t' : TS} (h : PSsT X sts t) (hm : ∀ D σ H, t' D σ H → t D σ H) : PSsT X sts t' := fun pins s σ H D h0 I q => h pins s σ H D h0 I (hm D σ H q)
theorem dssT_ret {X : Cx} {e : Expr} {kp : Nat → Bool} {f : FM} {pos : Pos} (h : DMT X f e) : PSsT X [.Return (some e) pos] (rdS (kg X) kp (sRet f)) := by
  refine PSsT.imp (CwR.psst_one (CwR.pst_ret h)) fun D σ H ⟨F, O, S, fl, S', r, hf, k⟩ => ?_
  obtain ⟨m, S1, h1, h2⟩ := R.bind_ok hf
  cases h2
  exact ⟨F, O, S, m, S', r, h1, fun v H1 F1 O1 st1 r1 rm => k v σ H1 F1 O1 st1 r1 (Kp.refl _ _) rm⟩
theorem fn_okT {P : Program} {w : World} {K : PySem.W.Frag} {mg : Str → Option Value} {base : Heap} {x qual : Str} {st : Stmt} {f : Addr} {fd : FuncData} {k : Nat} (N ps : List Str) (np nl : Nat) (kp : Nat → Bool) (body : FS) (g : List M → CR) (hnp : ps.length = np) (hnl : N.length = nl)
    (hg : g = runFn np nl kp body) (F : Fun K x qual st f fd) (S : FnScope N ps (defScope st)) (hnc : ∀ y ∈ (defScope st).names, y.2 ≠ .cell) (hp1 : 1 ≤ np)
    (hbody : ∀ (cdv : Value) (A : Around) (outer : List Env) (s : Shared) (H : Hp) (E : XK), PSsT (cxOf CX0 P w K mg base N qual (defScope st) f cdv A outer s H E) (defBody st) (rdS (kg0 K mg) kp body)) :
    FnG P w K mg base (k + 1) f fd ps (spD (kg0 K mg) np g) := by
  subst hnp hnl hg
  obtain ⟨oc, od, kV, doc, pm, an, cdv, ct, osl, rfl, lk, hcd⟩ := F.ex
  have F1 : FnOk P w K mg base CX0 (k + 1) f (PySem.W.fnOf x qual (defArgs st) (defBody st) (defScope st) .none kV doc pm an cdv ct) ps (spD (kg0 K mg) ps.length (runFn ps.length N.length kp body)) := by
    refine fn_ofT lk hcd S hnc hp1 (fun vs H Q E ⟨_, _, _, _, _, h, _⟩ => h) fun A outer s H vs Q E hr hsp => ⟨_, hbody cdv A outer s H E, ?_⟩
    obtain ⟨F', O, ms, r, fin, hv, hm, bs, args, hg, k⟩ := hsp
    unfold runFn at hg
    rw [if_pos hm] at hg
    have hst : ∀ p v, vs[p]? = some v → (L2.start N vs)[p]? = some (some v) := fun p v e => by
      unfold L2.start
      have hl := (List.getElem?_eq_some_iff.mp e).1
      rw [List.getElem?_append_left (by simpa using hl), List.getElem?_map, e]
      rfl
    have r0 : Rp (kg0 K mg) H F' O (L2.start N vs) (ms.map some ++ List.replicate (N.length - ps.length) none) := by
      refine ⟨bs, by unfold L2.start; simp [hm, hv], fun i m e => ?_⟩
      have e' : ms[i]? = some m := by
        unfold SS.at at e
        by_cases hl : i < (ms.map some).length
        · rw [List.getElem?_append_left hl, List.getElem?_map] at e
          cases e2 : ms[i]? with
          | none => rw [e2] at e; cases e
          | some z => rw [e2] at e; exact e
        · rw [List.getElem?_append_right (by omega)] at e
          rw [List.getElem?_replicate] at e
          split at e <;> cases e
      obtain ⟨v, h1, h2⟩ := args i m e'
      exact ⟨v, hst i v h1, h2⟩
    have fins : ∀ {S' : SS} {σ' : St} {H' F'' : Hp} {O' : OW}, Rp (kg0 K mg) H' F'' O' σ' S' → Kp kp (L2.start N vs) σ' → ∀ p m, (finOf kp S' 0 ps.length)[p]? = some (some m) → ∃ w, vs[p]? = some w ∧ RepM (kg0 K mg) H' F'' O' (.s p, []) w m := fun {S' σ' H' F'' O'} r1 kk p m e => by
      obtain ⟨h1, h2, h3⟩ := finOf_at e
      rw [Nat.zero_add] at h1 h2
      obtain ⟨w, hw, rm⟩ := r1.sl p m h2
      have hl : p < vs.length := by rw [hv]; exact h3
      have e2 := List.getElem?_eq_getElem hl
      rw [kk.2 p h1, hst p _ e2] at hw
      cases hw
      exact ⟨_, e2, rm⟩
    show rdS (kg0 K mg) kp body _ (L2.start N vs) H
    cases eb : body (ms.map some ++ List.replicate (N.length - ps.length) none) with
    | no => rw [eb] at hg; cases hg
    | ex x S' => rw [eb] at hg; cases hg
    | ok fl S' =>
      rw [eb] at hg
      refine ⟨F', O, _, fl, S', r0, eb, ?_⟩
      cases fl with
      | nx =>
        cases hg
        exact fun σ' H' F'' O' st' r' kk => k .non H' F'' O' st' r'.bs .non (fins r' kk)
      | rt m =>
        cases hg
        exact fun v σ' H' F'' O' st' r' kk rm => k v H' F'' O' st' r'.bs rm (fins r' kk)
      | bk => cases hg
      | ct => cases hg
  exact ⟨F1.len, fun A outer s H args us vs Q E hr => F1.run A outer s H args us vs Q E hr.rm⟩
/-! ### calls that leave defaults out -/
noncomputable def flatV : D → V
  | .int i => .int i
  | .str x => .str x
  | _ => .non
theorem flatIs_v : ∀ {us : List Value} {ds : List D}, flatIs us ds = true → Vals (ds.map flatV) us ∧ ∀ (K : KG) (F : Hp), RepDs K F (ds.map flatV) ds
  | [], [], _ => ⟨.nil, fun _ _ => .nil⟩
  | .int i t :: us, .int j :: ds, h => by
    have h : (decide (i = j) && flatIs us ds) = true := h
    rw [Bool.and_eq_true] at h
    obtain ⟨h1, h2⟩ := flatIs_v h.2
    have e := of_decide_eq_true h.1
    subst e
    exact ⟨.cons ⟨t, rfl⟩ h1, fun K F => .cons (.int i) (h2 K F)⟩
  | .str i t :: us, .str j :: ds, h => by
    have h : (decide (i = j) && flatIs us ds) = true := h
    rw [Bool.and_eq_true] at h
    obtain ⟨h1, h2⟩ := flatIs_v h.2
    have e := of_decide_eq_true h.1
    subst e
    exact ⟨.cons ⟨t, rfl⟩ h1, fun K F => .cons (.str i) (h2 K F)⟩
/-- the last params have these defaults -/
noncomputable def BindD (K : PySem.W.Frag) (fd : FuncData) (ps : List Str) (dd : List D) : Prop := ∃ (dvs : List V) (ds : List Value), Vals dvs ds ∧ Binds K fd ps ds ∧ ∀ (K' : KG) (F : Hp), RepDs K' F dvs dd
theorem bindD_of {K : PySem.W.Frag} {x qual : Str} {st : Stmt} {f T : Addr} {oc : Value} {od an : Option Addr} {osl : Array (Option Value)} {kV doc pm cdv ct : Value} {o : Obj} {its : Array Value} {n : Nat} {ds : List D} {ps : List Str} (l : K.lookup f = some ⟨oc, od, .func (PySem.W.fnOf x qual (defArgs st) (defBody st) (defScope st) (.ref T) kV doc pm an cdv ct), osl⟩)
    (c : PySem.W.codeIn K cdv qual = true) (k : PySem.W.keepIn K (.ref f) = true) (y : K.lookup T = some o) (yd : o.data = .seq its n) (ye : flatIs its.toList ds = true) (hne : ds ≠ []) (m : Nat) (hm : m + ds.length = ps.length)
    (h : ∀ (T : Addr) (kV doc pm : Value) (an : Option Addr) (cdv ct : Value) (us its : List Value), us.length = m → its.length = ds.length →
      ∃ k, bindArgs (PySem.W.fnOf x qual (defArgs st) (defBody st) (defScope st) (.ref T) kV doc pm an cdv ct) ⟨us, []⟩ = seqItems? (.ref T) >>= k ∧ k (some its.toArray) = pure (ps.zip (us ++ its))) :
    BindD K (PySem.W.fnOf x qual (defArgs st) (defBody st) (defScope st) (.ref T) kV doc pm an cdv ct) ps ds := by
  obtain ⟨h1, h2⟩ := flatIs_v ye
  have hv : ds.map flatV ≠ [] := fun e => hne (List.map_eq_nil_iff.mp e)
  have F : FunD K x qual (defArgs st) (defBody st) (defScope st) (ds.map flatV) [] f (PySem.W.fnOf x qual (defArgs st) (defBody st) (defScope st) (.ref T) kV doc pm an cdv ct) :=
    ⟨⟨oc, od, _, kV, doc, pm, an, cdv, ct, osl, rfl, l, c, .inr ⟨hv, T, o, its.toList, n, rfl, y, by rw [yd, Array.toArray_toList], h1⟩, .inl rfl⟩, k⟩
  obtain ⟨ds', r, b⟩ := F.binds1 (ps := ps) m 0 hv (by rw [List.length_map]; omega) fun T kV doc pm an cdv ct us its e1 e2 => by
    obtain ⟨k, q1, q2⟩ := h T kV doc pm an cdv ct us its e1 (by rw [e2, List.length_map])
    exact ⟨k, q1, by rw [q2, List.drop_zero]⟩
  exact ⟨_, ds', r, b, h2⟩
theorem vals_app : ∀ {vs vs' : List V} {us us' : List Value}, Vals vs us → Vals vs' us' → Vals (vs ++ vs') (us ++ us')
  | _, _, _, _, .nil, h => h
  | _, _, _, _, .cons a r, h => .cons a (vals_app r h)
theorem ovs_appD {K : KG} {F : Hp} {σ : St} : ∀ {vs dvs : List V} {os : List Ov} {dd : List D}, RepOvs K F σ vs os → RepDs K F dvs dd → RepOvs K F σ (vs ++ dvs) (os ++ dd.map Ov.d)
  | _, _, _, _, .nil, h => by
    have g : ∀ {dvs : List V} {dd : List D}, RepDs K F dvs dd → RepOvs K F σ dvs (dd.map Ov.d) := fun {dvs dd} h => by
      induction dvs generalizing dd with
      | nil => cases h; exact .nil
      | cons v dvs ih =>
        cases h with
        | cons a r => exact .cons a (ih r)
    exact g h
  | _, _, _, _, .cons a r, h => .cons a (ovs_appD r h)
structure FnDd (P : Program) (w : World) (K : PySem.W.Frag) (mg : Str → Option Value) (base : Heap) (n : Nat) (x : Str) (np : Nat) (g : List M → CR) (dd : List D) : Prop where
  ex : ∃ (f : Addr) (fd : FuncData) (ps : List Str), ps.length = np ∧ FnG P w K mg base n f fd ps (spD (kg0 K mg) np g) ∧ mg x = some (.ref f) ∧ PySem.W.keepIn K (.ref f) = true ∧ BindD K fd ps dd
theorem fnDd_zero {P : Program} {w : World} {K : PySem.W.Frag} {mg : Str → Option Value} {base : Heap} {n : Nat} {x qual : Str} {st : Stmt} {f : Addr} {fd : FuncData} {ps : List Str} {dd : List D} (F : FunV K x qual st f fd) (m : mg x = some (.ref f)) (b : BindD K fd ps dd) :
    FnDd P w K mg base n x ps.length (fun _ => .no) dd := by
  refine ⟨f, fd, ps, rfl, ⟨fun vs H Q E ⟨_, _, _, _, _, h, _⟩ => h, fun A outer s H args us vs Q E _ _ _ _ h => ?_⟩, m, F.kp, b⟩
  obtain ⟨_, _, _, _, _, _, _, _, _, h, _⟩ := h
  cases h
/-- the operands, and the defaults behind them -/
noncomputable def aDef (f : FA) (dd : List D) : FA := fun S => (f S).bind fun os S1 => .ok (os ++ dd.map Ov.d) S1
@[simp] theorem aDef_ap (f : FA) (dd : List D) (S : SS) : aDef f dd S = (f S).bind fun os S1 => .ok (os ++ dd.map Ov.d) S1 := (rfl)
section
variable {X : Cx} {e : Expr} {es : List Expr} {x : Str} {p pos : Pos} {n np : Nat} {g : List M → CR} {dd : List D}
theorem dm_callD {fas : FA} {m : Nat} (F : FnDd X.prog X.w X.K X.mg X.base n x np g dd) (hr : RoomG n X.A) (hg : Gl X x) (ha : DA X fas (e :: es)) (hm : Many fas m) (hmn : m + dd.length = np := by rfl) (hdb : (x == ("__debug__" : Str)) = false := by decide)
    (he : starEach (e :: es) X.env = (false, eval e X.env) :: starEach es X.env := by rfl) (hpl : (backTo pos (starEach es X.env)).any (·.1) = false := by rfl) (hcm : X.calm = true := by rfl) : DM X (mCall g (aDef fas dd)) (.Call (.Name x p) (e :: es) [] pos) := by
  obtain ⟨f, fd, ps, hps, hF, hmg, hk, dvs, ds, hvd, hb, hrd⟩ := F.ex
  rw [← kg_calm hcm] at hF
  refine ⟨fun pins s σ H Q I h => ?_⟩
  obtain ⟨F0, O, S, mm, S', r, hf, k⟩ := h
  obtain ⟨os', S1, h1, h2⟩ := R.bind_ok hf
  obtain ⟨os, S0, h3, h4⟩ := R.bind_ok h1
  cases h4
  refine wpAny_Call_Name_kw (ld_glob I hg hmg (PySem.W.callWith_K (h₀ := X.base) I.ok.mod.kin hk (thn (ha.run pos pins s σ H (fun vs H1 => spD (kg X) np g (vs ++ dvs) H1 Q fun _ _ _ => False) I ⟨F0, O, S, os, S1, r, h3, fun vs H1 F1 O1 st1 r1 ro => ?_⟩) fun us s1 ⟨vs, H1, I1, rv, q⟩ => ⟨I1.kIn, ?_⟩) he hpl) hdb)
  · refine call_core r1 (ovs_appD ro (hrd _ _)) (by rw [List.length_append, List.length_map, hm _ _ _ h3]; exact hmn) h2 fun v H' F' O' st r' rm => k v H' F' O' (st1.trans st) r' rm
  · have hl : (us ++ ds).length = ps.length := by
      rw [List.length_append, ← rv.length, ← hvd.length, ← List.length_append]
      exact hF.len _ _ _ _ q
    have hb' := hb s1 us I1.kIn hl
    refine wpAny_call (codeAny_mono (hF.run X.A X.stack s1 H1 ⟨us, []⟩ (us ++ ds) (vs ++ dvs) Q _ hr I1.env0 hb' (vals_app rv hvd) q) fun r s' hq => ?_)
    match r, hq with
    | .ok (.ret u), hq => exact I1.after hq
end
/-! ### x.f += e of whole numbers -/
theorem ds_augFAdd {X : Cx} {kp : Nat → Bool} {j : Nat} {c f : Str} {o e : Expr} {fe : FE} {pos tpos : Pos} (ho : PE X o (tVar j)) (cl : ClF (kg X) c f) (he : DE X fe e) : DS X kp (sAugF j c f (fun x y => x + y) fe) (.AugAssign (.Attribute o f tpos) .Add e pos) :=
  PS.imp (ps_fldaug ho he in_add) fun D σ H h => augF_rd (fun x y H Q q => by first | exact ⟨x, y, rfl, rfl, q⟩ | exact .inl ⟨x, y, rfl, rfl, q⟩ | exact ⟨_, _, rfl, rfl, q⟩) cl h
set_option maxHeartbeats 2000000
noncomputable def c_KEPT : D := (.tup [(.str "yes"), (.str "no"), (.str "if"), (.str "let"), (.str "loop"), (.str "raise"), (.str "try"), (.str "pick"), (.str "many"), (.str "parts"), (.str "mark"), (.str "melt"), (.str "def")])
noncomputable def c_LETTERS : D := (.str "abcdefghijklmnopqrstuvwxyz")
noncomputable def c_FIGURES : D := (.str "0123456789")
noncomputable def c_MOST_LETTERS : D := (.int 8)
noncomputable def c_MOST_FIGURES_words : D := (.int 3)
noncomputable def c_PLAIN : D := (.tup [(.str "number"), (.str "truth"), (.str "name")])
noncomputable def c_SIGNS : D := (.tup [(.str "+"), (.str "-"), (.str "*"), (.str "/"), (.str "<"), (.str "=")])
noncomputable def t_SHAPES : List (Str × Int) := [("number", 2), ("truth", 2), ("name", 2), ("do", 4), ("parts", 2), ("pick", 3), ("many", 2), ("if", 4), ("let", 4), ("loop", 6), ("raise", 2), ("try", 4), ("mark", 3), ("call", 3), ("melt", 4)]
noncomputable def c_MOST_NUMBER : D := (.int 1000000000)
noncomputable def c_MOST_ARGS : D := (.int 4)
noncomputable def c_MOST_NODES : D := (.int 2000)
noncomputable def c_MOST_DEPTH : D := (.int 64)
noncomputable def c_MOST_FIGURES_reader : D := (.int 10)
noncomputable def b_shown_parts (call : Str → List M → CR) : FS :=
  (sSeq (sSet 1 (mBin ixD (eN 0) (eC (.int 0))))
  (sSeq (sIf (tM (mBin eqD (eN 1) (eC (.str "do"))))
    (sRet (mLst (aCons (eM (mBin ixD (eN 0) (eC (.int 1)))) (aCons (eM (mCall (call "show_tree") (aCons (eM (mBin ixD (eN 0) (eC (.int 2)))) aNil))) (aCons (eM (mCall (call "show_tree") (aCons (eM (mBin ixD (eN 0) (eC (.int 3)))) aNil))) aNil)))))
    sNil)
  (sSeq (sIf (tM (mBin eqD (eN 1) (eC (.str "parts"))))
    (sRet (mBin addD (eM (mLst (aCons (eN 1) aNil))) (eM (mLc [4] (iSeq (eM (mBin ixD (eN 0) (eC (.int 1))))) (gN 4) tTrue (eM (mCall (call "show_tree") (aCons (eN 4) aNil)))))))
    sNil)
  (sSeq (sIf (tM (mBin inD (eN 1) (eM (mTup (aCons (eC (.str "pick")) (aCons (eC (.str "mark")) aNil))))))
    (sRet (mLst (aCons (eN 1) (aCons (eM (mBlt (on1 strD) (aCons (eM (mBin ixD (eN 0) (eC (.int 1)))) aNil))) (aCons (eM (mCall (call "show_tree") (aCons (eM (mBin ixD (eN 0) (eC (.int 2)))) aNil))) aNil)))))
    sNil)
  (sSeq (sIf (tM (mBin inD (eN 1) (eM (mTup (aCons (eC (.str "many")) (aCons (eC (.str "if")) aNil))))))
    (sRet (mBin addD (eM (mLst (aCons (eN 1) aNil))) (eM (mLc [4] (iSeq (eM (mSl (eN 0) (pIx (eC (.int 1))) pNo))) (gN 4) tTrue (eM (mCall (call "show_tree") (aCons (eN 4) aNil)))))))
    sNil)
  (sSeq (sIf (tM (mBin eqD (eN 1) (eC (.str "let"))))
    (sRet (mLst (aCons (eN 1) (aCons (eM (mBin ixD (eN 0) (eC (.int 1)))) (aCons (eM (mCall (call "show_tree") (aCons (eM (mBin ixD (eN 0) (eC (.int 2)))) aNil))) (aCons (eM (mCall (call "show_tree") (aCons (eM (mBin ixD (eN 0) (eC (.int 3)))) aNil))) aNil))))))
    sNil)
  (sSeq (sIf (tM (mBin eqD (eN 1) (eC (.str "loop"))))
    (sRet (mLst (aCons (eN 1) (aCons (eM (mBin ixD (eN 0) (eC (.int 1)))) (aCons (eM (mCall (call "show_tree") (aCons (eM (mBin ixD (eN 0) (eC (.int 2)))) aNil))) (aCons (eM (mBin ixD (eN 0) (eC (.int 3)))) (aCons (eM (mCall (call "show_tree") (aCons (eM (mBin ixD (eN 0) (eC (.int 4)))) aNil))) (aCons (eM (mCall (call "show_tree") (aCons (eM (mBin ixD (eN 0) (eC (.int 5)))) aNil))) aNil))))))))
    sNil)
  (sSeq (sIf (tM (mBin eqD (eN 1) (eC (.str "raise"))))
    (sRet (mLst (aCons (eN 1) (aCons (eM (mBin ixD (eN 0) (eC (.int 1)))) aNil))))
    sNil)
  (sSeq (sIf (tM (mBin eqD (eN 1) (eC (.str "try"))))
    (sRet (mLst (aCons (eN 1) (aCons (eM (mCall (call "show_tree") (aCons (eM (mBin ixD (eN 0) (eC (.int 1)))) aNil))) (aCons (eM (mBin ixD (eN 0) (eC (.int 2)))) (aCons (eM (mCall (call "show_tree") (aCons (eM (mBin ixD (eN 0) (eC (.int 3)))) aNil))) aNil))))))
    sNil)
  (sSeq (sIf (tM (mBin eqD (eN 1) (eC (.str "call"))))
    (sRet (mBin addD (eM (mLst (aCons (eM (mBin ixD (eN 0) (eC (.int 1)))) aNil))) (eM (mLc [4] (iSeq (eM (mBin ixD (eN 0) (eC (.int 2))))) (gN 4) tTrue (eM (mCall (call "show_tree") (aCons (eN 4) aNil)))))))
    sNil)
  (sSeq (sSet 2 (mLc [3, 4] (iSeq (eM (mBin ixD (eN 0) (eC (.int 2))))) (gT 2 (gsCons (gN 3) (gsCons (gN 4) gsNil))) tTrue (eM (mJs [(mE (eC (.str "("))), (mFmt (eN 3)), (mE (eC (.str " "))), (mFmt (eM (mCall (call "show_tree") (aCons (eN 4) aNil)))), (mE (eC (.str ")")))]))))
  (sRet (mLst (aCons (eN 1) (aCons (eM (mBin ixD (eN 0) (eC (.int 1)))) (aCons (eM (mBin addD (eM (mBin addD (eC (.str "(")) (eM (mJoin (eC (.str " ")) (eN 2))))) (eC (.str ")")))) (aCons (eM (mCall (call "show_tree") (aCons (eM (mBin ixD (eN 0) (eC (.int 3)))) aNil))) aNil)))))))))))))))))
noncomputable def g_shown_parts (call : Str → List M → CR) : List M → CR := runFn 1 5 (kpl [true]) (b_shown_parts call)
noncomputable def b_show_tree (call : Str → List M → CR) : FS :=
  (sSeq (sIf (tM (mBin eqD (eM (mBin ixD (eN 0) (eC (.int 0)))) (eC (.str "truth"))))
    (sRet (mIf (tM (mBin ixD (eN 0) (eC (.int 1)))) (mE (eC (.str "yes"))) (mE (eC (.str "no")))))
    sNil)
  (sSeq (sIf (tM (mBin inD (eM (mBin ixD (eN 0) (eC (.int 0)))) (eM (mTup (aCons (eC (.str "number")) (aCons (eC (.str "name")) aNil))))))
    (sRet (mBlt (on1 strD) (aCons (eM (mBin ixD (eN 0) (eC (.int 1)))) aNil)))
    sNil)
  (sRet (mBin addD (eM (mBin addD (eC (.str "(")) (eM (mJoin (eC (.str " ")) (eM (mCall (call "shown_parts") (aCons (eN 0) aNil))))))) (eC (.str ")"))))))
noncomputable def g_show_tree (call : Str → List M → CR) : List M → CR := runFn 1 1 (kpl [true]) (b_show_tree call)
noncomputable def b_is_whole (call : Str → List M → CR) : FS :=
  (sRet (vAnd (mBlt (on2 isiD) (aCons (eN 0) (aCons (eC (.ty "int")) aNil))) (vNot (mBlt (on2 isiD) (aCons (eN 0) (aCons (eC (.ty "bool")) aNil))))))
noncomputable def g_is_whole (call : Str → List M → CR) : List M → CR := runFn 1 1 (kpl [true]) (b_is_whole call)
noncomputable def b_is_from_to (call : Str → List M → CR) : FS :=
  (sRet (vAnd (mCall (call "is_whole") (aCons (eN 0) aNil)) (mChain leD leD (eN 1) (eN 0) (eN 2))))
noncomputable def g_is_from_to (call : Str → List M → CR) : List M → CR := runFn 3 3 (kpl [true, true, true]) (b_is_from_to call)
noncomputable def b_stem_of (call : Str → List M → CR) : FS :=
  (sRet (mStr rstripD (eN 0) (eC c_FIGURES)))
noncomputable def g_stem_of (call : Str → List M → CR) : List M → CR := runFn 1 1 (kpl [true]) (b_stem_of call)
noncomputable def b_is_word (call : Str → List M → CR) : FS :=
  (sSeq (sIf (tOr' (tNot' (tM (mBlt (on2 isiD) (aCons (eN 0) (aCons (eC (.ty "str")) aNil))))) (tM (mBin inD (eN 0) (eC c_KEPT))))
    (sRet (mE (eC (.bl false))))
    sNil)
  (sSeq (sSet 1 (mCall (call "stem_of") (aCons (eN 0) aNil)))
  (sSeq (sIf (tOr' (tNot' (tM (mChain leD leD (eC (.int 1)) (eM (mBlt (on1 lenD) (aCons (eN 1) aNil))) (eC c_MOST_LETTERS)))) (tNot' (tM (mBlt (on1 allD) (aCons (eM (mLc [3] (iSeq (eN 1)) (gN 3) tTrue (eM (mBin inD (eN 3) (eC c_LETTERS))))) aNil)))))
    (sRet (mE (eC (.bl false))))
    sNil)
  (sSeq (sSet 2 (mSl (eN 0) (pIx (eM (mBlt (on1 lenD) (aCons (eN 1) aNil)))) pNo))
  (sRet (vOr (mBin eqD (eN 2) (eC (.str ""))) (vAnd (mBin leD (eM (mBlt (on1 lenD) (aCons (eN 2) aNil))) (eC c_MOST_FIGURES_words)) (mBin neD (eM (mBin ixD (eN 2) (eC (.int 0)))) (eC (.str "0"))))))))))
noncomputable def g_is_word (call : Str → List M → CR) : List M → CR := runFn 1 4 (kpl [true]) (b_is_word call)
noncomputable def b_is_row (call : Str → List M → CR) : FS :=
  (sRet (vAnd (mBlt (on2 isiD) (aCons (eN 0) (aCons (eC (.ty "tuple")) aNil))) (mBin leD (eM (mBlt (on1 lenD) (aCons (eN 0) aNil))) (eC c_MOST_ARGS))))
noncomputable def g_is_row (call : Str → List M → CR) : List M → CR := runFn 1 1 (kpl [true]) (b_is_row call)
noncomputable def b_is_bare (call : Str → List M → CR) : FS :=
  (sRet (vAnd (mBlt (on2 isiD) (aCons (eN 0) (aCons (eC (.ty "tuple")) aNil))) (vAnd (mBin neD (eN 0) (eM (mTup aNil))) (vAnd (mBlt (on2 isiD) (aCons (eM (mBin ixD (eN 0) (eC (.int 0)))) (aCons (eC (.ty "str")) aNil))) (mBin inD (eM (mBin ixD (eN 0) (eC (.int 0)))) (eC c_PLAIN))))))
noncomputable def g_is_bare (call : Str → List M → CR) : List M → CR := runFn 1 1 (kpl [true]) (b_is_bare call)
noncomputable def b_are_pairs (call : Str → List M → CR) : FS :=
  (sSeq (sIf (tNot' (tM (mCall (call "is_row") (aCons (eN 0) aNil))))
    (sRet (mE (eC (.bl false))))
    sNil)
  (sSeq (sFor (iSeq (eN 0)) (gN 1)
    (sIf (tOr' (tNot' (tM (mBlt (on2 isiD) (aCons (eN 1) (aCons (eC (.ty "tuple")) aNil))))) (tOr' (tM (mBin neD (eM (mBlt (on1 lenD) (aCons (eN 1) aNil))) (eC (.int 2)))) (tNot' (tM (mCall (call "is_word") (aCons (eM (mBin ixD (eN 1) (eC (.int 0)))) aNil))))))
    (sRet (mE (eC (.bl false))))
    sNil))
  (sSeq (sSet 2 (mLc [3, 4] (iSeq (eN 0)) (gT 2 (gsCons (gN 3) (gsCons (gN 4) gsNil))) (tNot' (tM (mCall (call "is_bare") (aCons (eN 4) aNil)))) (eN 3)))
  (sRet (mBin eqD (eM (mLenSet (eN 2))) (eM (mBlt (on1 lenD) (aCons (eN 2) aNil))))))))
noncomputable def g_are_pairs (call : Str → List M → CR) : List M → CR := runFn 1 5 (kpl [true]) (b_are_pairs call)
noncomputable def b_has_words (call : Str → List M → CR) : FS :=
  (sSeq (sIf (tM (mBin eqD (eM (mBin ixD (eN 0) (eC (.int 0)))) (eC (.str "loop"))))
    (sRet (vAnd (mCall (call "is_word") (aCons (eM (mBin ixD (eN 0) (eC (.int 1)))) aNil)) (vAnd (mCall (call "is_word") (aCons (eM (mBin ixD (eN 0) (eC (.int 3)))) aNil)) (mBin neD (eM (mBin ixD (eN 0) (eC (.int 1)))) (eM (mBin ixD (eN 0) (eC (.int 3))))))))
    sNil)
  (sSeq (sIf (tM (mBin eqD (eM (mBin ixD (eN 0) (eC (.int 0)))) (eC (.str "try"))))
    (sRet (mCall (call "is_word") (aCons (eM (mBin ixD (eN 0) (eC (.int 2)))) aNil)))
    sNil)
  (sRet (mCall (call "is_word") (aCons (eM (mBin ixD (eN 0) (eC (.int 1)))) aNil)))))
noncomputable def g_has_words (call : Str → List M → CR) : List M → CR := runFn 1 1 (kpl [true]) (b_has_words call)
noncomputable def b_is_node (call : Str → List M → CR) : FS :=
  (sSeq (sIf (tOr' (tNot' (tM (mBlt (on2 isiD) (aCons (eN 0) (aCons (eC (.ty "tuple")) aNil))))) (tOr' (tM (mBin eqD (eN 0) (eM (mTup aNil)))) (tNot' (tM (mBlt (on2 isiD) (aCons (eM (mBin ixD (eN 0) (eC (.int 0)))) (aCons (eC (.ty "str")) aNil)))))))
    (sRet (mE (eC (.bl false))))
    sNil)
  (sSeq (sIf (tOr' (tM (mBin (ninT t_SHAPES) (eM (mBin ixD (eN 0) (eC (.int 0)))) (eC .non))) (tM (mBin neD (eM (mBlt (on1 lenD) (aCons (eN 0) aNil))) (eM (mBin (ixT t_SHAPES) (eC .non) (eM (mBin ixD (eN 0) (eC (.int 0)))))))))
    (sRet (mE (eC (.bl false))))
    sNil)
  (sSeq (sIf (tM (mBin inD (eM (mBin ixD (eN 0) (eC (.int 0)))) (eM (mTup (aCons (eC (.str "number")) (aCons (eC (.str "mark")) aNil))))))
    (sRet (mCall (call "is_from_to") (aCons (eM (mBin ixD (eN 0) (eC (.int 1)))) (aCons (eC (.int 0)) (aCons (eC c_MOST_NUMBER) aNil)))))
    sNil)
  (sSeq (sIf (tM (mBin eqD (eM (mBin ixD (eN 0) (eC (.int 0)))) (eC (.str "truth"))))
    (sRet (mBlt (on2 isiD) (aCons (eM (mBin ixD (eN 0) (eC (.int 1)))) (aCons (eC (.ty "bool")) aNil))))
    sNil)
  (sSeq (sIf (tM (mBin eqD (eM (mBin ixD (eN 0) (eC (.int 0)))) (eC (.str "do"))))
    (sRet (vAnd (mBlt (on2 isiD) (aCons (eM (mBin ixD (eN 0) (eC (.int 1)))) (aCons (eC (.ty "str")) aNil))) (mBin inD (eM (mBin ixD (eN 0) (eC (.int 1)))) (eC c_SIGNS))))
    sNil)
  (sSeq (sIf (tM (mBin eqD (eM (mBin ixD (eN 0) (eC (.int 0)))) (eC (.str "pick"))))
    (sRet (mCall (call "is_from_to") (aCons (eM (mBin ixD (eN 0) (eC (.int 1)))) (aCons (eC (.int 1)) (aCons (eC c_MOST_ARGS) aNil)))))
    sNil)
  (sSeq (sIf (tM (mBin eqD (eM (mBin ixD (eN 0) (eC (.int 0)))) (eC (.str "parts"))))
    (sRet (mCall (call "is_row") (aCons (eM (mBin ixD (eN 0) (eC (.int 1)))) aNil)))
    sNil)
  (sSeq (sIf (tM (mBin inD (eM (mBin ixD (eN 0) (eC (.int 0)))) (eM (mTup (aCons (eC (.str "many")) (aCons (eC (.str "if")) aNil))))))
    (sRet (mE (eC (.bl true))))
    sNil)
  (sSeq (sIf (tM (mBin eqD (eM (mBin ixD (eN 0) (eC (.int 0)))) (eC (.str "call"))))
    (sRet (vAnd (mCall (call "has_words") (aCons (eN 0) aNil)) (mCall (call "is_row") (aCons (eM (mBin ixD (eN 0) (eC (.int 2)))) aNil))))
    sNil)
  (sSeq (sIf (tM (mBin eqD (eM (mBin ixD (eN 0) (eC (.int 0)))) (eC (.str "melt"))))
    (sRet (vAnd (mCall (call "has_words") (aCons (eN 0) aNil)) (mCall (call "are_pairs") (aCons (eM (mBin ixD (eN 0) (eC (.int 2)))) aNil))))
    sNil)
  (sRet (mCall (call "has_words") (aCons (eN 0) aNil)))))))))))))
noncomputable def g_is_node (call : Str → List M → CR) : List M → CR := runFn 1 1 (kpl [true]) (b_is_node call)
noncomputable def b_parts_of (call : Str → List M → CR) : FS :=
  (sSeq (sIf (tM (mBin inD (eM (mBin ixD (eN 0) (eC (.int 0)))) (eM (mTup (aCons (eC (.str "number")) (aCons (eC (.str "truth")) (aCons (eC (.str "name")) (aCons (eC (.str "raise")) aNil))))))))
    (sRet (mLst aNil))
    sNil)
  (sSeq (sIf (tM (mBin inD (eM (mBin ixD (eN 0) (eC (.int 0)))) (eM (mTup (aCons (eC (.str "do")) (aCons (eC (.str "let")) (aCons (eC (.str "pick")) (aCons (eC (.str "mark")) aNil))))))))
    (sRet (mBlt (on1 listD) (aCons (eM (mSl (eN 0) (pIx (eC (.int 2))) pNo)) aNil)))
    sNil)
  (sSeq (sIf (tM (mBin inD (eM (mBin ixD (eN 0) (eC (.int 0)))) (eM (mTup (aCons (eC (.str "many")) (aCons (eC (.str "if")) aNil))))))
    (sRet (mBlt (on1 listD) (aCons (eM (mSl (eN 0) (pIx (eC (.int 1))) pNo)) aNil)))
    sNil)
  (sSeq (sIf (tM (mBin eqD (eM (mBin ixD (eN 0) (eC (.int 0)))) (eC (.str "parts"))))
    (sRet (mBlt (on1 listD) (aCons (eM (mBin ixD (eN 0) (eC (.int 1)))) aNil)))
    sNil)
  (sSeq (sIf (tM (mBin eqD (eM (mBin ixD (eN 0) (eC (.int 0)))) (eC (.str "loop"))))
    (sRet (mLst (aCons (eM (mBin ixD (eN 0) (eC (.int 2)))) (aCons (eM (mBin ixD (eN 0) (eC (.int 4)))) (aCons (eM (mBin ixD (eN 0) (eC (.int 5)))) aNil)))))
    sNil)
  (sSeq (sIf (tM (mBin eqD (eM (mBin ixD (eN 0) (eC (.int 0)))) (eC (.str "try"))))
    (sRet (mLst (aCons (eM (mBin ixD (eN 0) (eC (.int 1)))) (aCons (eM (mBin ixD (eN 0) (eC (.int 3)))) aNil))))
    sNil)
  (sSeq (sIf (tM (mBin eqD (eM (mBin ixD (eN 0) (eC (.int 0)))) (eC (.str "call"))))
    (sRet (mBlt (on1 listD) (aCons (eM (mBin ixD (eN 0) (eC (.int 2)))) aNil)))
    sNil)
  (sRet (mBin addD (eM (mLc [1, 2] (iSeq (eM (mBin ixD (eN 0) (eC (.int 2))))) (gT 2 (gsCons (gN 1) (gsCons (gN 2) gsNil))) tTrue (eN 2))) (eM (mLst (aCons (eM (mBin ixD (eN 0) (eC (.int 3)))) aNil))))))))))))
noncomputable def g_parts_of (call : Str → List M → CR) : List M → CR := runFn 1 3 (kpl [true]) (b_parts_of call)
noncomputable def b_counted_parts (call : Str → List M → CR) : FS :=
  (sSeq (sIf (tM (mBin neD (eM (mBin ixD (eN 0) (eC (.int 0)))) (eC (.str "melt"))))
    (sRet (mCall (call "parts_of") (aCons (eN 0) aNil)))
    sNil)
  (sRet (mBin addD (eM (mLc [1, 2] (iSeq (eM (mBin ixD (eN 0) (eC (.int 2))))) (gT 2 (gsCons (gN 1) (gsCons (gN 2) gsNil))) (tNot' (tM (mCall (call "is_bare") (aCons (eN 2) aNil)))) (eN 2))) (eM (mLst (aCons (eM (mBin ixD (eN 0) (eC (.int 3)))) aNil))))))
noncomputable def g_counted_parts (call : Str → List M → CR) : List M → CR := runFn 1 3 (kpl [true]) (b_counted_parts call)
noncomputable def b_is_tree (call : Str → List M → CR) : FS :=
  (sSeq (sSet 1 (mLst (aCons (eM (mTup (aCons (eN 0) (aCons (eC (.int 1)) aNil)))) aNil)))
  (sSeq (sSet 2 (mE (eC (.int 0))))
  (sSeq (sWhile (tM (mBin neD (eN 1) (eM (mLst aNil))))
    (sSeq (sAsg (eM (mPop 1)) (gT 2 (gsCons (gN 4) (gsCons (gN 5) gsNil))))
  (sSeq (sIf (tOr' (tM (mBin gtD (eN 5) (eC c_MOST_DEPTH))) (tNot' (tM (mCall (call "is_node") (aCons (eN 4) aNil)))))
    (sRet (mE (eC (.bl false))))
    sNil)
  (sSeq (sAug 2 iaddD (eC (.int 1)))
  (sSeq (sFor (iSeq (eM (mCall (call "parts_of") (aCons (eN 4) aNil)))) (gN 3)
    (sExpr (mApp 1 (eM (mTup (aCons (eN 3) (aCons (eM (mBin addD (eN 5) (eC (.int 1)))) aNil)))))))
  (sSeq (sIf (tM (mBin eqD (eM (mBin ixD (eN 4) (eC (.int 0)))) (eC (.str "melt"))))
    (sSet 2 (mBin addD (eM (mBin subD (eN 2) (eM (mBlt (on1 lenD) (aCons (eM (mCall (call "parts_of") (aCons (eN 4) aNil))) aNil))))) (eM (mBlt (on1 lenD) (aCons (eM (mCall (call "counted_parts") (aCons (eN 4) aNil))) aNil)))))
    sNil)
  (sIf (tM (mBin gtD (eN 2) (eC c_MOST_NODES)))
    (sRet (mE (eC (.bl false))))
    sNil)))))))
  (sRet (mE (eC (.bl true)))))))
noncomputable def g_is_tree (call : Str → List M → CR) : List M → CR := runFn 1 6 (kpl [true]) (b_is_tree call)
noncomputable def b_words_in (call : Str → List M → CR) : FS :=
  (sRet (mWords (mRepl ")" " ) " (mRepl "(" " ( " (mE (eN 0))))))
noncomputable def g_words_in (call : Str → List M → CR) : List M → CR := runFn 1 1 (kpl [true]) (b_words_in call)
-- number_in: line 144: Raise: raise NoText('no number')
noncomputable def b_number_in (call : Str → List M → CR) : FS :=
  (sSeq (sIf (tOr' (tM (mBin eqD (eN 0) (eC (.str "")))) (tOr' (tM (mBin gtD (eM (mBlt (on1 lenD) (aCons (eN 0) aNil))) (eC c_MOST_FIGURES_reader))) (tNot' (tM (mBlt (on1 allD) (aCons (eM (mLc [1] (iSeq (eN 0)) (gN 1) tTrue (eM (mBin inD (eN 1) (eC c_FIGURES))))) aNil))))))
    sNo
    sNil)
  (sRet (mBlt (on1 intD2) (aCons (eN 0) aNil))))
noncomputable def g_number_in (call : Str → List M → CR) : List M → CR := runFn 1 2 (kpl [true]) (b_number_in call)
noncomputable def b_read_some (call : Str → List M → CR) : FS :=
  (sSeq (sSet 2 (mLst aNil))
  (sSeq (sWhile (tM (mBin neD (eM (mMth "Reading" "ahead" (call "Reading.ahead") (eN 0) aNil)) (eC (.str ")"))))
    (sExpr (mApp 2 (eM (mCall (call "read_one") (aCons (eN 0) (aCons (eN 1) aNil)))))))
  (sRet (mBlt (on1 tupleD) (aCons (eN 2) aNil)))))
noncomputable def g_read_some (call : Str → List M → CR) : List M → CR := runFn 2 3 (kpl [true, true]) (b_read_some call)
noncomputable def b_read_pairs (call : Str → List M → CR) : FS :=
  (sSeq (sSet 2 (mLst aNil))
  (sSeq (sExpr (mMth "Reading" "need" (call "Reading.need") (eN 0) (aCons (eC (.str "(")) aNil)))
  (sSeq (sWhile (tM (mBin neD (eM (mMth "Reading" "ahead" (call "Reading.ahead") (eN 0) aNil)) (eC (.str ")"))))
    (sSeq (sExpr (mMth "Reading" "need" (call "Reading.need") (eN 0) (aCons (eC (.str "(")) aNil)))
  (sSeq (sSet 3 (mMth "Reading" "taken" (call "Reading.taken") (eN 0) aNil))
  (sSeq (sExpr (mApp 2 (eM (mTup (aCons (eN 3) (aCons (eM (mCall (call "read_one") (aCons (eN 0) (aCons (eN 1) aNil)))) aNil))))))
  (sExpr (mMth "Reading" "need" (call "Reading.need") (eN 0) (aCons (eC (.str ")")) aNil)))))))
  (sSeq (sExpr (mMth "Reading" "need" (call "Reading.need") (eN 0) (aCons (eC (.str ")")) aNil)))
  (sRet (mBlt (on1 tupleD) (aCons (eN 2) aNil)))))))
noncomputable def g_read_pairs (call : Str → List M → CR) : List M → CR := runFn 2 4 (kpl [true, true]) (b_read_pairs call)
noncomputable def b_read_inside (call : Str → List M → CR) : FS :=
  (sSeq (sIf (tM (mBin inD (eN 1) (eC c_SIGNS)))
    (sRet (mBin addD (eM (mTup (aCons (eC (.str "do")) (aCons (eN 1) aNil)))) (eM (mCall (call "read_some") (aCons (eN 0) (aCons (eN 2) aNil))))))
    sNil)
  (sSeq (sIf (tM (mBin eqD (eN 1) (eC (.str "parts"))))
    (sRet (mTup (aCons (eN 1) (aCons (eM (mCall (call "read_some") (aCons (eN 0) (aCons (eN 2) aNil)))) aNil))))
    sNil)
  (sSeq (sIf (tM (mBin inD (eN 1) (eM (mTup (aCons (eC (.str "pick")) (aCons (eC (.str "mark")) aNil))))))
    (sSeq (sSet 3 (mCall (call "number_in") (aCons (eM (mMth "Reading" "taken" (call "Reading.taken") (eN 0) aNil)) aNil)))
  (sRet (mTup (aCons (eN 1) (aCons (eN 3) (aCons (eM (mCall (call "read_one") (aCons (eN 0) (aCons (eN 2) aNil)))) aNil))))))
    sNil)
  (sSeq (sIf (tM (mBin inD (eN 1) (eM (mTup (aCons (eC (.str "many")) (aCons (eC (.str "if")) aNil))))))
    (sRet (mBin addD (eM (mTup (aCons (eN 1) aNil))) (eM (mCall (call "read_some") (aCons (eN 0) (aCons (eN 2) aNil))))))
    sNil)
  (sSeq (sIf (tM (mBin inD (eN 1) (eM (mTup (aCons (eC (.str "let")) (aCons (eC (.str "raise")) aNil))))))
    (sSeq (sSet 4 (mMth "Reading" "taken" (call "Reading.taken") (eN 0) aNil))
  (sRet (mBin addD (eM (mTup (aCons (eN 1) (aCons (eN 4) aNil)))) (eM (mCall (call "read_some") (aCons (eN 0) (aCons (eN 2) aNil)))))))
    sNil)
  (sSeq (sIf (tM (mBin eqD (eN 1) (eC (.str "loop"))))
    (sSeq (sSet 4 (mMth "Reading" "taken" (call "Reading.taken") (eN 0) aNil))
  (sSeq (sSet 5 (mCall (call "read_one") (aCons (eN 0) (aCons (eN 2) aNil))))
  (sSeq (sSet 6 (mMth "Reading" "taken" (call "Reading.taken") (eN 0) aNil))
  (sRet (mBin addD (eM (mTup (aCons (eN 1) (aCons (eN 4) (aCons (eN 5) (aCons (eN 6) aNil)))))) (eM (mCall (call "read_some") (aCons (eN 0) (aCons (eN 2) aNil)))))))))
    sNil)
  (sSeq (sIf (tM (mBin eqD (eN 1) (eC (.str "try"))))
    (sSeq (sSet 7 (mCall (call "read_one") (aCons (eN 0) (aCons (eN 2) aNil))))
  (sSeq (sSet 4 (mMth "Reading" "taken" (call "Reading.taken") (eN 0) aNil))
  (sRet (mBin addD (eM (mTup (aCons (eN 1) (aCons (eN 7) (aCons (eN 4) aNil))))) (eM (mCall (call "read_some") (aCons (eN 0) (aCons (eN 2) aNil))))))))
    sNil)
  (sSeq (sIf (tM (mBin eqD (eN 1) (eC (.str "melt"))))
    (sSeq (sSet 4 (mMth "Reading" "taken" (call "Reading.taken") (eN 0) aNil))
  (sSeq (sSet 8 (mCall (call "read_pairs") (aCons (eN 0) (aCons (eN 2) aNil))))
  (sRet (mBin addD (eM (mTup (aCons (eN 1) (aCons (eN 4) (aCons (eN 8) aNil))))) (eM (mCall (call "read_some") (aCons (eN 0) (aCons (eN 2) aNil))))))))
    sNil)
  (sRet (mTup (aCons (eC (.str "call")) (aCons (eN 1) (aCons (eM (mCall (call "read_some") (aCons (eN 0) (aCons (eN 2) aNil)))) aNil)))))))))))))
noncomputable def g_read_inside (call : Str → List M → CR) : List M → CR := runFn 3 9 (kpl [true, true, true]) (b_read_inside call)
-- read_one: line 210: Raise: raise NoText('too deep')
noncomputable def b_read_one (call : Str → List M → CR) : FS :=
  (sSeq (sIf (tM (mBin eqD (eN 1) (eC (.int 0))))
    sNo
    sNil)
  (sSeq (sSet 2 (mMth "Reading" "taken" (call "Reading.taken") (eN 0) aNil))
  (sSeq (sIf (tM (mBin eqD (eN 2) (eC (.str "("))))
    (sSeq (sSet 3 (mCall (call "read_inside") (aCons (eN 0) (aCons (eM (mMth "Reading" "taken" (call "Reading.taken") (eN 0) aNil)) (aCons (eM (mBin subD (eN 1) (eC (.int 1)))) aNil)))))
  (sSeq (sExpr (mMth "Reading" "need" (call "Reading.need") (eN 0) (aCons (eC (.str ")")) aNil)))
  (sRetV 3)))
    sNil)
  (sSeq (sIf (tM (mBin inD (eN 2) (eM (mTup (aCons (eC (.str "yes")) (aCons (eC (.str "no")) aNil))))))
    (sRet (mTup (aCons (eC (.str "truth")) (aCons (eM (mBin eqD (eN 2) (eC (.str "yes")))) aNil))))
    sNil)
  (sSeq (sIf (tM (mBin inD (eM (mBin ixD (eN 2) (eC (.int 0)))) (eC c_FIGURES)))
    (sRet (mTup (aCons (eC (.str "number")) (aCons (eM (mCall (call "number_in") (aCons (eN 2) aNil))) aNil))))
    sNil)
  (sRet (mTup (aCons (eC (.str "name")) (aCons (eN 2) aNil)))))))))
noncomputable def g_read_one (call : Str → List M → CR) : List M → CR := runFn 2 4 (kpl [true, true]) (b_read_one call)
-- read_tree: line 223: Raise: raise NoText('no text')
-- read_tree: line 227: Raise: raise NoText('the text of no tree')
noncomputable def b_read_tree (call : Str → List M → CR) : FS :=
  (sSeq (sIf (tNot' (tM (mBlt (on2 isiD) (aCons (eN 0) (aCons (eC (.ty "str")) aNil)))))
    sNo
    sNil)
  (sSeq (sSet 1 (mMake "Reading" (call "Reading") (aCons (eM (mCall (call "words_in") (aCons (eN 0) aNil))) aNil)))
  (sSeq (sSet 2 (mCall (call "read_one") (aCons (eN 1) (aCons (eC c_MOST_DEPTH) aNil))))
  (sSeq (sIf (tOr' (tNot' (tM (mCall (call "is_tree") (aCons (eN 2) aNil)))) (tM (mBin neD (eM (mCall (call "show_tree") (aCons (eN 2) aNil))) (eN 0))))
    sNo
    sNil)
  (sRetV 2)))))
noncomputable def g_read_tree (call : Str → List M → CR) : List M → CR := runFn 1 3 (kpl [true]) (b_read_tree call)
noncomputable def b__law_words (call : Str → List M → CR) : FS :=
  (sSeq (sSet 2 (mE (eC (.str "abcdefghijklmnopqrstuvwxyz"))))
  (sSeq (sSet 3 (mLst (aCons (eC (.str "kind")) (aCons (eC (.str "far")) (aCons (eC (.str "nought")) (aCons (eC (.str "lack")) (aCons (eC (.str "told")) (aCons (eC (.str "dry")) (aCons (eC (.str "refused")) (aCons (eC (.str "name")) (aCons (eC (.str "call")) (aCons (eC (.str "number")) (aCons (eC (.str "do")) (aCons (eC (.str "truth")) (aCons (eC (.str "root")) aNil)))))))))))))))
  (sSeq (sSet 4 (mCall (call "_law_take") (aCons (eN 0) (aCons (eC (.int 4)) aNil))))
  (sSeq (sSet 5 (mCall (call "_law_take") (aCons (eN 0) (aCons (eC (.int 26)) aNil))))
  (sSeq (sSet 6 (mBin mulD (eM (mBin ixD (eN 2) (eM (mCall (call "_law_take") (aCons (eN 0) (aCons (eC (.int 26)) aNil)))))) (eM (mBin addD (eC (.int 1)) (eM (mCall (call "_law_take") (aCons (eN 0) (aCons (eC (.int 8)) aNil))))))))
  (sSeq (sIf (tM (mBin eqD (eN 4) (eC (.int 0))))
    (sSeq (sSet 7 (mLst (aCons (eC (.str "")) (aCons (eC (.str "1")) (aCons (eC (.str "2")) (aCons (eC (.str "12")) (aCons (eC (.str "10")) (aCons (eC (.str "3")) (aCons (eC (.str "20")) (aCons (eC (.str "100")) (aCons (eC (.str "11")) (aCons (eC (.str "9")) (aCons (eC (.str "999")) (aCons (eC (.str "21")) aNil))))))))))))))
  (sSeq (sSet 7 (mBin addD (eM (mSl (eN 7) (pIx (eM (mBin modD (eN 5) (eC (.int 5))))) pNo)) (eM (mSl (eN 7) pNo (pIx (eM (mBin modD (eN 5) (eC (.int 5)))))))))
  (sRet (mLc [10] (iSeq (eM (mSl (eN 7) pNo (pIx (eN 1))))) (gN 10) tTrue (eM (mBin addD (eN 6) (eN 10)))))))
    sNil)
  (sSeq (sIf (tM (mBin eqD (eN 4) (eC (.int 1))))
    (sRet (mSl (eM (mBin addD (eM (mSl (eN 3) (pIx (eM (mBin modD (eN 5) (eC (.int 13))))) pNo)) (eM (mSl (eN 3) pNo (pIx (eM (mBin modD (eN 5) (eC (.int 13))))))))) pNo (pIx (eN 1))))
    sNil)
  (sSeq (sIf (tM (mBin eqD (eN 4) (eC (.int 2))))
    (sSeq (sSet 6 (mBin addD (eN 6) (eM (mBin mulD (eN 6) (eM (mBlt (on1 intD) (aCons (eM (mBin eqD (eM (mBlt (on1 lenD) (aCons (eN 6) aNil))) (eC (.int 2)))) aNil)))))))
  (sSeq (sSet 8 (mBin modD (eN 5) (eM (mBlt (on1 lenD) (aCons (eN 6) aNil)))))
  (sRet (mLc [9] (iRng1 (eN 1)) (gN 9) tTrue (eM (mBin addD (eM (mBin addD (eM (mSl (eN 6) pNo (pIx (eN 8)))) (eM (mBin ixD (eN 2) (eM (mBin modD (eM (mBin addD (eN 5) (eN 9))) (eC (.int 26)))))))) (eM (mSl (eN 6) (pIx (eM (mBin addD (eN 8) (eC (.int 1))))) pNo))))))))
    sNil)
  (sRet (mLc [9] (iRng1 (eN 1)) (gN 9) tTrue (eM (mBin addD (eM (mBin ixD (eN 2) (eM (mBin modD (eM (mBin addD (eN 5) (eM (mBin fdivD (eN 9) (eC (.int 3)))))) (eC (.int 26)))))) (eM (mBin ixD (eM (mLst (aCons (eC (.str "")) (aCons (eC (.str "1")) (aCons (eC (.str "12")) aNil))))) (eM (mBin modD (eN 9) (eC (.int 3))))))))))))))))))
noncomputable def g__law_words (call : Str → List M → CR) : List M → CR := runFn 2 11 (kpl [true, true]) (b__law_words call)
noncomputable def b__law_plain (call : Str → List M → CR) : FS :=
  (sSeq (sSet 3 (mCall (call "_law_take") (aCons (eN 0) (aCons (eC (.int 8)) aNil))))
  (sSeq (sIf (tAnd' (tM (mBin gtD (eN 3) (eC (.int 3)))) (tM (mBin neD (eN 1) (eM (mLst aNil)))))
    (sRet (mTup (aCons (eC (.str "name")) (aCons (eM (mBin ixD (eN 1) (eM (mCall (call "_law_take") (aCons (eN 0) (aCons (eM (mBlt (on1 lenD) (aCons (eN 1) aNil))) aNil)))))) aNil))))
    sNil)
  (sSeq (sIf (tAnd' (tM (mBin eqD (eN 3) (eC (.int 0)))) (tM (mBin eqD (eN 2) (eC (.int 0)))))
    (sRet (mTup (aCons (eC (.str "truth")) (aCons (eM (mBin eqD (eM (mCall (call "_law_take") (aCons (eN 0) (aCons (eC (.int 2)) aNil)))) (eC (.int 1)))) aNil))))
    sNil)
  (sSeq (sIf (tAnd' (tM (mBin eqD (eN 3) (eC (.int 1)))) (tM (mBin eqD (eN 2) (eC (.int 0)))))
    (sRet (mTup (aCons (eC (.str "number")) (aCons (eM (mCall (call "_law_take") (aCons (eN 0) (aCons (eM (mBin addD (eM (mBin powD (eC (.int 10)) (eC (.int 9)))) (eC (.int 1)))) aNil)))) aNil))))
    sNil)
  (sRet (mTup (aCons (eC (.str "number")) (aCons (eM (mCall (call "_law_take") (aCons (eN 0) (aCons (eC (.int 5)) aNil)))) aNil))))))))
noncomputable def g__law_plain (call : Str → List M → CR) : List M → CR := runFn 3 4 (kpl [true, true, true]) (b__law_plain call)
noncomputable def b__law_node (call : Str → List M → CR) : FS :=
  (sSeq (sIf (tM (mBin ltD (eN 1) (eC (.int 5))))
    (sRet (mTup (aCons (eC (.str "call")) (aCons (eM (mBin ixD (eN 2) (eC (.int 0)))) (aCons (eM (mBlt (on1 tupleD) (aCons (eN 3) aNil))) aNil)))))
    sNil)
  (sSeq (sIf (tM (mBin ltD (eN 1) (eC (.int 8))))
    (sRet (mTup (aCons (eC (.str "do")) (aCons (eM (mBin ixD (eM (mBin ixD (eM (mLst (aCons (eC (.str "+-*/<=")) (aCons (eC (.str "+-*/+-")) aNil)))) (eN 5))) (eM (mCall (call "_law_take") (aCons (eN 0) (aCons (eC (.int 6)) aNil)))))) (aCons (eM (mBin ixD (eN 3) (eC (.int 0)))) (aCons (eM (mBin ixD (eN 3) (eC (.int 1)))) aNil))))))
    sNil)
  (sSeq (sIf (tM (mBin eqD (eN 1) (eC (.int 8))))
    (sRet (mBin ixD (eM (mLst (aCons (eM (mTup (aCons (eC (.str "parts")) (aCons (eM (mBlt (on1 tupleD) (aCons (eN 3) aNil))) aNil)))) (aCons (eM (mTup (aCons (eC (.str "many")) (aCons (eM (mTup (aCons (eC (.str "parts")) (aCons (eM (mBlt (on1 tupleD) (aCons (eN 3) aNil))) aNil)))) aNil)))) aNil)))) (eN 5)))
    sNil)
  (sSeq (sIf (tM (mBin eqD (eN 1) (eC (.int 9))))
    (sSeq (sSet 6 (mBin ixD (eM (mLst (aCons (eM (mBin ixD (eN 3) (eC (.int 0)))) (aCons (eM (mTup (aCons (eC (.str "parts")) (aCons (eM (mTup (aCons (eM (mBin ixD (eN 3) (eC (.int 0)))) aNil))) aNil)))) aNil)))) (eN 5)))
  (sRet (mBin ixD (eM (mLst (aCons (eM (mTup (aCons (eC (.str "many")) (aCons (eN 6) aNil)))) (aCons (eM (mTup (aCons (eC (.str "pick")) (aCons (eM (mBin ixD (eM (mLst (aCons (eM (mBin addD (eC (.int 1)) (eM (mCall (call "_law_take") (aCons (eN 0) (aCons (eC (.int 4)) aNil)))))) (aCons (eC (.int 1)) aNil)))) (eN 5))) (aCons (eN 6) aNil))))) aNil)))) (eM (mCall (call "_law_take") (aCons (eN 0) (aCons (eC (.int 2)) aNil)))))))
    sNil)
  (sSeq (sIf (tM (mBin eqD (eN 1) (eC (.int 10))))
    (sSeq (sSet 7 (mCall (call "_law_take") (aCons (eN 0) (aCons (eC (.int 3)) aNil))))
  (sSeq (sSet 8 (mBin ixD (eN 3) (eC (.int 0))))
  (sSeq (sIf (tM (mBin eqD (eN 5) (eC (.int 1))))
    (sSet 8 (mTup (aCons (eC (.str "do")) (aCons (eC (.str "=")) (aCons (eN 8) (aCons (eM (mTup (aCons (eC (.str "number")) (aCons (eN 7) aNil)))) aNil))))))
    (sIf (tM (mBin eqD (eM (mBin ixD (eN 8) (eC (.int 0)))) (eC (.str "number"))))
    (sSet 8 (mTup (aCons (eC (.str "truth")) (aCons (eM (mBin eqD (eN 7) (eC (.int 1)))) aNil))))
    sNil))
  (sRet (mTup (aCons (eC (.str "if")) (aCons (eN 8) (aCons (eM (mBin ixD (eN 3) (eC (.int 1)))) (aCons (eM (mBin ixD (eN 3) (eC (.int 2)))) aNil)))))))))
    sNil)
  (sSeq (sIf (tM (mBin ltD (eN 1) (eC (.int 13))))
    (sRet (mTup (aCons (eC (.str "let")) (aCons (eM (mBin ixD (eN 4) (eC (.int 0)))) (aCons (eM (mBin ixD (eN 3) (eC (.int 0)))) (aCons (eM (mBin ixD (eN 3) (eC (.int 1)))) aNil))))))
    sNil)
  (sSeq (sIf (tM (mBin eqD (eN 1) (eC (.int 13))))
    (sSeq (sSet 7 (mTup (aCons (eC (.str "number")) (aCons (eM (mCall (call "_law_take") (aCons (eN 0) (aCons (eM (mBin ixD (eM (mLst (aCons (eC (.int 4)) (aCons (eC (.int 52)) aNil)))) (eM (mBlt (on1 intD) (aCons (eM (mBin eqD (eM (mCall (call "_law_take") (aCons (eN 0) (aCons (eC (.int 8)) aNil)))) (eC (.int 7)))) aNil))))) aNil)))) aNil))))
  (sSeq (sSet 9 (mBin ixD (eM (mLst (aCons (eM (mBin ixD (eN 3) (eC (.int 1)))) (aCons (eN 7) aNil)))) (eM (mBlt (on2 maxD) (aCons (eN 5) (aCons (eM (mCall (call "_law_take") (aCons (eN 0) (aCons (eC (.int 2)) aNil)))) aNil))))))
  (sRet (mTup (aCons (eC (.str "loop")) (aCons (eM (mBin ixD (eN 4) (eC (.int 0)))) (aCons (eM (mBin ixD (eN 3) (eC (.int 0)))) (aCons (eM (mBin ixD (eN 4) (eC (.int 1)))) (aCons (eN 9) (aCons (eM (mBin ixD (eN 3) (eC (.int 2)))) aNil))))))))))
    sNil)
  (sSeq (sIf (tAnd' (tM (mBin eqD (eN 1) (eC (.int 14)))) (tM (mBin eqD (eN 3) (eM (mLst aNil)))))
    (sRet (mTup (aCons (eC (.str "raise")) (aCons (eM (mBin ixD (eN 4) (eC (.int 0)))) aNil))))
    sNil)
  (sSeq (sIf (tM (mBin eqD (eN 1) (eC (.int 14))))
    (sRet (mTup (aCons (eC (.str "try")) (aCons (eM (mBin ixD (eN 3) (eC (.int 0)))) (aCons (eM (mBin ixD (eM (mLst (aCons (eM (mBin ixD (eN 4) (eC (.int 0)))) (aCons (eC (.str "kind")) (aCons (eC (.str "far")) (aCons (eC (.str "nought")) aNil)))))) (eM (mCall (call "_law_take") (aCons (eN 0) (aCons (eC (.int 4)) aNil)))))) (aCons (eM (mBin ixD (eN 3) (eC (.int 1)))) aNil))))))
    sNil)
  (sRet (mTup (aCons (eC (.str "mark")) (aCons (eM (mBin ixD (eM (mLst (aCons (eM (mCall (call "_law_take") (aCons (eN 0) (aCons (eC (.int 10)) aNil)))) (aCons (eM (mBin powD (eC (.int 10)) (eC (.int 9)))) aNil)))) (eM (mBlt (on1 intD) (aCons (eM (mBin eqD (eM (mCall (call "_law_take") (aCons (eN 0) (aCons (eC (.int 16)) aNil)))) (eC (.int 15)))) aNil))))) (aCons (eM (mBin ixD (eN 3) (eC (.int 0)))) aNil))))))))))))))
noncomputable def g__law_node (call : Str → List M → CR) : List M → CR := runFn 6 10 (kpl [true, true, true, true, true, true]) (b__law_node call)
noncomputable def b__law_any (call : Str → List M → CR) : FS :=
  (sSeq (sSet 4 (mCall (call "_law_take") (aCons (eN 0) (aCons (eC (.int 18)) aNil))))
  (sSeq (sSet 5 (mCall (call "_law_take") (aCons (eN 0) (aCons (eM (mBlt (on1 lenD) (aCons (eN 1) aNil))) aNil))))
  (sSeq (sSet 6 (mTup (aCons (eM (mBin ixD (eN 1) (eN 5))) (aCons (eM (mBin ixD (eN 1) (eM (mBin modD (eM (mBin addD (eN 5) (eC (.int 1)))) (eM (mBlt (on1 lenD) (aCons (eN 1) aNil))))))) aNil))))
  (sSeq (sSet 7 (mCall (call "_law_take") (aCons (eN 0) (aCons (eC (.int 5)) aNil))))
  (sSeq (sSet 8 (mBin ixD (eM (mBin addD (eM (mBin addD (eM (mBin mulD (eM (mLst (aCons (eN 7) aNil))) (eC (.int 5)))) (eM (mLst (aCons (eC (.int 2)) (aCons (eC (.int 2)) (aCons (eC (.int 2)) (aCons (eN 7) (aCons (eC (.int 1)) (aCons (eC (.int 3)) (aCons (eC (.int 2)) (aCons (eC (.int 2)) (aCons (eC (.int 3)) (aCons (eM (mBin mulD (eC (.int 2)) (eM (mBin modD (eN 7) (eC (.int 2)))))) (aCons (eC (.int 1)) aNil))))))))))))))) (eM (mBin mulD (eM (mLst (aCons (eM (mBin addD (eC (.int 1)) (eN 7))) aNil))) (eC (.int 2)))))) (eN 4)))
  (sSeq (sIf (tOr' (tM (mBin ltD (eN 2) (eM (mBin addD (eC (.int 1)) (eN 8))))) (tM (mBin ltD (eN 3) (eC (.int 2)))))
    (sRet (mCall (call "_law_plain") (aDef (aCons (eN 0) (aCons (eN 1) aNil)) [(.int 0)])))
    sNil)
  (sSeq (sSet 9 (mBin fdivD (eM (mBin subD (eN 2) (eC (.int 1)))) (eM (mBlt (on2 maxD) (aCons (eC (.int 1)) (aCons (eN 8) aNil))))))
  (sSeq (sSet 10 (mLc [12] (iRng1 (eN 8)) (gN 12) tTrue (eM (mCall (call "_law_any") (aCons (eN 0) (aCons (eN 1) (aCons (eN 9) (aCons (eM (mBin subD (eN 3) (eC (.int 1)))) aNil))))))))
  (sSeq (sIf (tM (mBin ltD (eN 4) (eC (.int 16))))
    (sRet (mCall (call "_law_node") (aDef (aCons (eN 0) (aCons (eN 4) (aCons (eN 6) (aCons (eN 10) (aCons (eN 6) aNil))))) [(.int 0)])))
    sNil)
  (sSeq (sSet 11 (mLc [12] (iRng1 (eN 7)) (gN 12) tTrue (eM (mTup (aCons (eM (mBin ixD (eN 1) (eM (mBin modD (eM (mBin addD (eN 5) (eN 12))) (eM (mBlt (on1 lenD) (aCons (eN 1) aNil))))))) (aCons (eM (mBin ixD (eN 10) (eN 12))) aNil))))))
  (sRet (mTup (aCons (eC (.str "melt")) (aCons (eM (mBin ixD (eN 6) (eC (.int 1)))) (aCons (eM (mBlt (on1 tupleD) (aCons (eN 11) aNil))) (aCons (eM (mBin ixD (eN 10) (eM (mNeg (eC (.int 1)))))) aNil))))))))))))))))
noncomputable def g__law_any (call : Str → List M → CR) : List M → CR := runFn 4 13 (kpl [true, true, true, true]) (b__law_any call)
noncomputable def b__law_parts (call : Str → List M → CR) : FS :=
  (sSeq (sSet 1 (mBin ixD (eN 0) (eC (.int 0))))
  (sSeq (sIf (tM (mBin inD (eN 1) (eM (mTup (aCons (eC (.str "number")) (aCons (eC (.str "truth")) (aCons (eC (.str "name")) (aCons (eC (.str "raise")) aNil))))))))
    (sRet (mLst aNil))
    sNil)
  (sSeq (sIf (tM (mBin inD (eN 1) (eM (mTup (aCons (eC (.str "do")) (aCons (eC (.str "let")) aNil))))))
    (sRet (mLst (aCons (eM (mBin ixD (eN 0) (eC (.int 2)))) (aCons (eM (mBin ixD (eN 0) (eC (.int 3)))) aNil))))
    sNil)
  (sSeq (sIf (tM (mBin inD (eN 1) (eM (mTup (aCons (eC (.str "pick")) (aCons (eC (.str "mark")) aNil))))))
    (sRet (mLst (aCons (eM (mBin ixD (eN 0) (eC (.int 2)))) aNil)))
    sNil)
  (sSeq (sIf (tM (mBin inD (eN 1) (eM (mTup (aCons (eC (.str "many")) (aCons (eC (.str "if")) aNil))))))
    (sRet (mBlt (on1 listD) (aCons (eM (mSl (eN 0) (pIx (eC (.int 1))) pNo)) aNil)))
    sNil)
  (sSeq (sIf (tM (mBin eqD (eN 1) (eC (.str "parts"))))
    (sRet (mBlt (on1 listD) (aCons (eM (mBin ixD (eN 0) (eC (.int 1)))) aNil)))
    sNil)
  (sSeq (sIf (tM (mBin eqD (eN 1) (eC (.str "loop"))))
    (sRet (mLst (aCons (eM (mBin ixD (eN 0) (eC (.int 2)))) (aCons (eM (mBin ixD (eN 0) (eC (.int 4)))) (aCons (eM (mBin ixD (eN 0) (eC (.int 5)))) aNil)))))
    sNil)
  (sSeq (sIf (tM (mBin eqD (eN 1) (eC (.str "try"))))
    (sRet (mLst (aCons (eM (mBin ixD (eN 0) (eC (.int 1)))) (aCons (eM (mBin ixD (eN 0) (eC (.int 3)))) aNil))))
    sNil)
  (sSeq (sIf (tM (mBin eqD (eN 1) (eC (.str "call"))))
    (sRet (mBlt (on1 listD) (aCons (eM (mBin ixD (eN 0) (eC (.int 2)))) aNil)))
    sNil)
  (sRet (mBin addD (eM (mLc [2] (iSeq (eM (mBin ixD (eN 0) (eC (.int 2))))) (gN 2) tTrue (eM (mBin ixD (eN 2) (eC (.int 1)))))) (eM (mLst (aCons (eM (mBin ixD (eN 0) (eC (.int 3)))) aNil))))))))))))))
noncomputable def g__law_parts (call : Str → List M → CR) : List M → CR := runFn 1 3 (kpl [true]) (b__law_parts call)
noncomputable def b__law_shown (call : Str → List M → CR) : FS :=
  (sSeq (sSet 1 (mBin ixD (eN 0) (eC (.int 0))))
  (sSeq (sIf (tM (mBin eqD (eN 1) (eC (.str "truth"))))
    (sRet (mBin ixD (eM (mLst (aCons (eC (.str "no")) (aCons (eC (.str "yes")) aNil)))) (eM (mBlt (on1 intD) (aCons (eM (mBin ixD (eN 0) (eC (.int 1)))) aNil)))))
    sNil)
  (sSeq (sIf (tM (mBin inD (eN 1) (eM (mTup (aCons (eC (.str "number")) (aCons (eC (.str "name")) aNil))))))
    (sRet (mBlt (on1 strD) (aCons (eM (mBin ixD (eN 0) (eC (.int 1)))) aNil)))
    sNil)
  (sSeq (sSet 2 (mLc [3] (iSeq (eM (mCall (call "_law_parts") (aCons (eN 0) aNil)))) (gN 3) tTrue (eM (mCall (call "_law_shown") (aCons (eN 3) aNil)))))
  (sSeq (sIf (tM (mBin eqD (eN 1) (eC (.str "do"))))
    (sSet 2 (mBin addD (eM (mLst (aCons (eM (mBin ixD (eN 0) (eC (.int 1)))) aNil))) (eN 2)))
    (sIf (tM (mBin inD (eN 1) (eM (mTup (aCons (eC (.str "pick")) (aCons (eC (.str "mark")) aNil))))))
    (sSet 2 (mBin addD (eM (mLst (aCons (eN 1) (aCons (eM (mBlt (on1 strD) (aCons (eM (mBin ixD (eN 0) (eC (.int 1)))) aNil))) aNil)))) (eN 2)))
    (sIf (tM (mBin inD (eN 1) (eM (mTup (aCons (eC (.str "let")) (aCons (eC (.str "raise")) aNil))))))
    (sSet 2 (mBin addD (eM (mLst (aCons (eN 1) (aCons (eM (mBin ixD (eN 0) (eC (.int 1)))) aNil)))) (eN 2)))
    (sIf (tM (mBin eqD (eN 1) (eC (.str "loop"))))
    (sSet 2 (mLst (aCons (eN 1) (aCons (eM (mBin ixD (eN 0) (eC (.int 1)))) (aCons (eM (mBin ixD (eN 2) (eC (.int 0)))) (aCons (eM (mBin ixD (eN 0) (eC (.int 3)))) (aCons (eM (mBin ixD (eN 2) (eC (.int 1)))) (aCons (eM (mBin ixD (eN 2) (eC (.int 2)))) aNil))))))))
    (sIf (tM (mBin eqD (eN 1) (eC (.str "try"))))
    (sSet 2 (mLst (aCons (eN 1) (aCons (eM (mBin ixD (eN 2) (eC (.int 0)))) (aCons (eM (mBin ixD (eN 0) (eC (.int 2)))) (aCons (eM (mBin ixD (eN 2) (eC (.int 1)))) aNil))))))
    (sIf (tM (mBin eqD (eN 1) (eC (.str "call"))))
    (sSet 2 (mBin addD (eM (mLst (aCons (eM (mBin ixD (eN 0) (eC (.int 1)))) aNil))) (eN 2)))
    (sIf (tM (mBin eqD (eN 1) (eC (.str "melt"))))
    (sSeq (sSet 4 (mLc [5] (iRng1 (eM (mBlt (on1 lenD) (aCons (eM (mBin ixD (eN 0) (eC (.int 2)))) aNil)))) (gN 5) tTrue (eM (mBin addD (eM (mBin addD (eM (mBin addD (eM (mBin addD (eC (.str "(")) (eM (mBin ixD (eM (mBin ixD (eM (mBin ixD (eN 0) (eC (.int 2)))) (eN 5))) (eC (.int 0)))))) (eC (.str " ")))) (eM (mBin ixD (eN 2) (eN 5))))) (eC (.str ")"))))))
  (sSet 2 (mLst (aCons (eN 1) (aCons (eM (mBin ixD (eN 0) (eC (.int 1)))) (aCons (eM (mBin addD (eM (mBin addD (eC (.str "(")) (eM (mJoin (eC (.str " ")) (eN 4))))) (eC (.str ")")))) (aCons (eM (mBin ixD (eN 2) (eM (mNeg (eC (.int 1)))))) aNil)))))))
    (sSet 2 (mBin addD (eM (mLst (aCons (eN 1) aNil))) (eN 2))))))))))
  (sRet (mBin addD (eM (mBin addD (eC (.str "(")) (eM (mJoin (eC (.str " ")) (eN 2))))) (eC (.str ")")))))))))
noncomputable def g__law_shown (call : Str → List M → CR) : List M → CR := runFn 1 6 (kpl [true]) (b__law_shown call)
noncomputable def b_law (call : Str → List M → CR) : FS :=
  (sSeq (sSet 1 (mCall (call "_law_bag") (aCons (eN 0) aNil)))
  (sSeq (sSet 2 (mCall (call "_law_words") (aCons (eN 1) (aCons (eC (.int 5)) aNil))))
  (sSeq (sSet 3 (mLc [6] (iRng1 (eC (.int 4))) (gN 6) tTrue (eM (mCall (call "_law_any") (aCons (eN 1) (aCons (eN 2) (aCons (eM (mBin ixD (eM (mLst (aCons (eC (.int 4)) (aCons (eC (.int 12)) (aCons (eC (.int 40)) aNil))))) (eM (mCall (call "_law_take") (aCons (eN 1) (aCons (eC (.int 3)) aNil)))))) (aCons (eM (mBin addD (eC (.int 2)) (eM (mCall (call "_law_take") (aCons (eN 1) (aCons (eC (.int 7)) aNil)))))) aNil))))))))
  (sSeq (sExpr (mApp 3 (eM (mTup (aCons (eC (.str "melt")) (aCons (eM (mBin ixD (eN 2) (eC (.int 0)))) (aCons (eM (mTup (aCons (eM (mTup (aCons (eM (mBin ixD (eN 2) (eC (.int 1)))) (aCons (eM (mBin ixD (eN 3) (eC (.int 0)))) aNil)))) (aCons (eM (mTup (aCons (eM (mBin ixD (eN 2) (eC (.int 2)))) (aCons (eM (mBin ixD (eN 3) (eC (.int 1)))) aNil)))) aNil)))) (aCons (eM (mBin ixD (eN 3) (eC (.int 2)))) aNil))))))))
  (sSeq (sSet 4 (mLc [7] (iSeq (eN 3)) (gN 7) tTrue (eM (mCall (call "_law_shown") (aCons (eN 7) aNil)))))
  (sSeq (sFor (iRng1 (eC (.int 2))) (gN 5)
    (sFor (iRng1 (eC (.int 5))) (gN 6)
    (sSeq (sSet 8 (mBlt (on1 reprD) (aCons (eM (mBin ixD (eN 3) (eN 6))) aNil)))
  (sSeq (sSet 9 (mCall (call "show_tree") (aCons (eM (mBin ixD (eN 3) (eN 6))) aNil)))
  (sSeq (sIf (tOr' (tNot' (tM (mBlt (on2 isiD) (aCons (eN 9) (aCons (eC (.ty "str")) aNil))))) (tOr' (tM (mBin neD (eN 9) (eM (mBin ixD (eN 4) (eN 6))))) (tM (mBin neD (eM (mBlt (on1 reprD) (aCons (eM (mBin ixD (eN 3) (eN 6))) aNil))) (eN 8)))))
    (sRet (mE (eC (.bl false))))
    sNil)
  (sIf (tM (mBin neD (eM (mBlt (on1 reprD) (aCons (eM (mCall (call "read_tree") (aCons (eM (mBin ixD (eN 4) (eN 6))) aNil))) aNil))) (eN 8)))
    (sRet (mE (eC (.bl false))))
    sNil))))))
  (sRet (mBlt (on1 allD) (aCons (eM (mLc [7] (iSeq (eN 3)) (gN 7) tTrue (eM (mBin eqD (eM (mBin eqD (eM (mBlt (on1 reprD) (aCons (eM (mBin ixD (eN 3) (eC (.int 0)))) aNil))) (eM (mBlt (on1 reprD) (aCons (eN 7) aNil))))) (eM (mBin eqD (eM (mBin ixD (eN 4) (eC (.int 0)))) (eM (mCall (call "_law_shown") (aCons (eN 7) aNil))))))))) aNil)))))))))
noncomputable def g_law (call : Str → List M → CR) : List M → CR := runFn 1 10 (kpl [true]) (b_law call)
noncomputable def b_Reading____init__ (call : Str → List M → CR) : FS :=
  (sSeq (sSetF 0 "Reading" "words" (mE (eN 1)))
  (sSetF 0 "Reading" "read" (mE (eC (.int 0)))))
noncomputable def g_Reading____init__ (call : Str → List M → CR) : List M → CR := runFn 2 2 (kpl [true, true]) (b_Reading____init__ call)
noncomputable def b_Reading__ahead (call : Str → List M → CR) : FS :=
  (sSeq (sIf (tM (mBin eqD (eFld "Reading" "read" (eN 0)) (eM (mBlt (on1 lenD) (aCons (eFld "Reading" "words" (eN 0)) aNil)))))
    (sRet (mE (eC (.str ""))))
    sNil)
  (sRet (mBin ixD (eFld "Reading" "words" (eN 0)) (eFld "Reading" "read" (eN 0)))))
noncomputable def g_Reading__ahead (call : Str → List M → CR) : List M → CR := runFn 1 1 (kpl [true]) (b_Reading__ahead call)
-- Reading.taken: line 159: Raise: raise NoText('it ends too soon')
noncomputable def b_Reading__taken (call : Str → List M → CR) : FS :=
  (sSeq (sIf (tM (mBin eqD (eFld "Reading" "read" (eN 0)) (eM (mBlt (on1 lenD) (aCons (eFld "Reading" "words" (eN 0)) aNil)))))
    sNo
    sNil)
  (sSeq (sAugF 0 "Reading" "read" (fun x y => x + y) (eC (.int 1)))
  (sRet (mBin ixD (eFld "Reading" "words" (eN 0)) (eM (mBin subD (eFld "Reading" "read" (eN 0)) (eC (.int 1))))))))
noncomputable def g_Reading__taken (call : Str → List M → CR) : List M → CR := runFn 1 1 (kpl [true]) (b_Reading__taken call)
-- Reading.need: line 165: Raise: raise NoText('another word')
noncomputable def b_Reading__need (call : Str → List M → CR) : FS :=
  (sIf (tM (mBin neD (eM (mMth "Reading" "taken" (call "Reading.taken") (eN 0) aNil)) (eN 1)))
    sNo
    sNil)
noncomputable def g_Reading__need (call : Str → List M → CR) : List M → CR := runFn 2 2 (kpl [true, true]) (b_Reading__need call)
noncomputable def tbl (call : Str → List M → CR) (f : Str) : List M → CR :=
  if f = "shown_parts" then g_shown_parts call else if f = "show_tree" then g_show_tree call else if f = "is_whole" then g_is_whole call else if f = "is_from_to" then g_is_from_to call else if f = "stem_of" then g_stem_of call else if f = "is_word" then g_is_word call else if f = "is_row" then g_is_row call else if f = "is_bare" then g_is_bare call else if f = "are_pairs" then g_are_pairs call else if f = "has_words" then g_has_words call else if f = "is_node" then g_is_node call else if f = "parts_of" then g_parts_of call else if f = "counted_parts" then g_counted_parts call else if f = "is_tree" then g_is_tree call else if f = "words_in" then g_words_in call else if f = "number_in" then g_number_in call else if f = "read_some" then g_read_some call else if f = "read_pairs" then g_read_pairs call else if f = "read_inside" then g_read_inside call else if f = "read_one" then g_read_one call else if f = "read_tree" then g_read_tree call else if f = "_law_bag" then g__law_bag call else if f = "_law_take" then g__law_take call else if f = "_law_words" then g__law_words call else if f = "_law_plain" then g__law_plain call else if f = "_law_node" then g__law_node call else if f = "_law_any" then g__law_any call else if f = "_law_parts" then g__law_parts call else if f = "_law_shown" then g__law_shown call else if f = "law" then g_law call else if f = "Reading.__init__" then g_Reading____init__ call else if f = "Reading.ahead" then g_Reading__ahead call else if f = "Reading.taken" then g_Reading__taken call else if f = "Reading.need" then g_Reading__need call else if f = "Reading" then call "Reading.__init__" else fun _ => .no
noncomputable def den : Nat → Str → List M → CR
  | 0, _ => fun _ => .no
  | n + 1, f => tbl (den n) f
theorem den_shown_parts (n : Nat) : den (n + 1) "shown_parts" = g_shown_parts (den n) := by (first | rfl | simp [den, tbl])
theorem den_show_tree (n : Nat) : den (n + 1) "show_tree" = g_show_tree (den n) := by (first | rfl | simp [den, tbl])
theorem den_is_whole (n : Nat) : den (n + 1) "is_whole" = g_is_whole (den n) := by (first | rfl | simp [den, tbl])
theorem den_is_from_to (n : Nat) : den (n + 1) "is_from_to" = g_is_from_to (den n) := by (first | rfl | simp [den, tbl])
theorem den_stem_of (n : Nat) : den (n + 1) "stem_of" = g_stem_of (den n) := by (first | rfl | simp [den, tbl])
theorem den_is_word (n : Nat) : den (n + 1) "is_word" = g_is_word (den n) := by (first | rfl | simp [den, tbl])
theorem den_is_row (n : Nat) : den (n + 1) "is_row" = g_is_row (den n) := by (first | rfl | simp [den, tbl])
theorem den_is_bare (n : Nat) : den (n + 1) "is_bare" = g_is_bare (den n) := by (first | rfl | simp [den, tbl])
theorem den_are_pairs (n : Nat) : den (n + 1) "are_pairs" = g_are_pairs (den n) := by (first | rfl | simp [den, tbl])
theorem den_has_words (n : Nat) : den (n + 1) "has_words" = g_has_words (den n) := by (first | rfl | simp [den, tbl])
theorem den_is_node (n : Nat) : den (n + 1) "is_node" = g_is_node (den n) := by (first | rfl | simp [den, tbl])
theorem den_parts_of (n : Nat) : den (n + 1) "parts_of" = g_parts_of (den n) := by (first | rfl | simp [den, tbl])
theorem den_counted_parts (n : Nat) : den (n + 1) "counted_parts" = g_counted_parts (den n) := by (first | rfl | simp [den, tbl])
theorem den_is_tree (n : Nat) : den (n + 1) "is_tree" = g_is_tree (den n) := by (first | rfl | simp [den, tbl])
theorem den_words_in (n : Nat) : den (n + 1) "words_in" = g_words_in (den n) := by (first | rfl | simp [den, tbl])
theorem den_number_in (n : Nat) : den (n + 1) "number_in" = g_number_in (den n) := by (first | rfl | simp [den, tbl])
theorem den_read_some (n : Nat) : den (n + 1) "read_some" = g_read_some (den n) := by (first | rfl | simp [den, tbl])
theorem den_read_pairs (n : Nat) : den (n + 1) "read_pairs" = g_read_pairs (den n) := by (first | rfl | simp [den, tbl])
theorem den_read_inside (n : Nat) : den (n + 1) "read_inside" = g_read_inside (den n) := by (first | rfl | simp [den, tbl])
theorem den_read_one (n : Nat) : den (n + 1) "read_one" = g_read_one (den n) := by (first | rfl | simp [den, tbl])
theorem den_read_tree (n : Nat) : den (n + 1) "read_tree" = g_read_tree (den n) := by (first | rfl | simp [den, tbl])
theorem den__law_bag (n : Nat) : den (n + 1) "_law_bag" = g__law_bag (den n) := by (first | rfl | simp [den, tbl])
theorem den__law_take (n : Nat) : den (n + 1) "_law_take" = g__law_take (den n) := by (first | rfl | simp [den, tbl])
theorem den__law_words (n : Nat) : den (n + 1) "_law_words" = g__law_words (den n) := by (first | rfl | simp [den, tbl])
theorem den__law_plain (n : Nat) : den (n + 1) "_law_plain" = g__law_plain (den n) := by (first | rfl | simp [den, tbl])
theorem den__law_node (n : Nat) : den (n + 1) "_law_node" = g__law_node (den n) := by (first | rfl | simp [den, tbl])
theorem den__law_any (n : Nat) : den (n + 1) "_law_any" = g__law_any (den n) := by (first | rfl | simp [den, tbl])
theorem den__law_parts (n : Nat) : den (n + 1) "_law_parts" = g__law_parts (den n) := by (first | rfl | simp [den, tbl])
theorem den__law_shown (n : Nat) : den (n + 1) "_law_shown" = g__law_shown (den n) := by (first | rfl | simp [den, tbl])
theorem den_law (n : Nat) : den (n + 1) "law" = g_law (den n) := by (first | rfl | simp [den, tbl])
theorem den_Reading____init__ (n : Nat) : den (n + 1) "Reading.__init__" = g_Reading____init__ (den n) := by (first | rfl | simp [den, tbl])
theorem den_Reading__ahead (n : Nat) : den (n + 1) "Reading.ahead" = g_Reading__ahead (den n) := by (first | rfl | simp [den, tbl])
theorem den_Reading__taken (n : Nat) : den (n + 1) "Reading.taken" = g_Reading__taken (den n) := by (first | rfl | simp [den, tbl])
theorem den_Reading__need (n : Nat) : den (n + 1) "Reading.need" = g_Reading__need (den n) := by (first | rfl | simp [den, tbl])
theorem den_Reading (n : Nat) : den (n + 1) "Reading" = den n "Reading.__init__" := by (first | rfl | simp [den, tbl])
@[simp] theorem sn_0_0 : ¬("":Str)="(" ∧ ¬("":Str)=")" ∧ ¬("":Str)="0" ∧ ¬("":Str)="call" ∧ ¬("":Str)="do" ∧ ¬("":Str)="if" ∧ ¬("":Str)="let" ∧ ¬("":Str)="loop" ∧ ¬("":Str)="many" ∧ ¬("":Str)="mark" ∧ ¬("":Str)="melt" ∧ ¬("":Str)="name" := by decide +kernel
@[simp] theorem sb_0_0 : (("":Str)=="(")=false ∧ (("":Str)==")")=false ∧ (("":Str)=="0")=false ∧ (("":Str)=="call")=false ∧ (("":Str)=="do")=false ∧ (("":Str)=="if")=false ∧ (("":Str)=="let")=false ∧ (("":Str)=="loop")=false ∧ (("":Str)=="many")=false ∧ (("":Str)=="mark")=false ∧ (("":Str)=="melt")=false ∧ (("":Str)=="name")=false := by decide +kernel
@[simp] theorem sn_0_12 : ¬("":Str)="no" ∧ ¬("":Str)="number" ∧ ¬("":Str)="parts" ∧ ¬("":Str)="pick" ∧ ¬("":Str)="raise" ∧ ¬("":Str)="truth" ∧ ¬("":Str)="try" ∧ ¬("":Str)="yes" := by decide +kernel
@[simp] theorem sb_0_12 : (("":Str)=="no")=false ∧ (("":Str)=="number")=false ∧ (("":Str)=="parts")=false ∧ (("":Str)=="pick")=false ∧ (("":Str)=="raise")=false ∧ (("":Str)=="truth")=false ∧ (("":Str)=="try")=false ∧ (("":Str)=="yes")=false := by decide +kernel
@[simp] theorem sn_1_0 : ¬("(":Str)="" ∧ ¬("(":Str)=")" ∧ ¬("(":Str)="0" ∧ ¬("(":Str)="call" ∧ ¬("(":Str)="do" ∧ ¬("(":Str)="if" ∧ ¬("(":Str)="let" ∧ ¬("(":Str)="loop" ∧ ¬("(":Str)="many" ∧ ¬("(":Str)="mark" ∧ ¬("(":Str)="melt" ∧ ¬("(":Str)="name" := by decide +kernel
@[simp] theorem sb_1_0 : (("(":Str)=="")=false ∧ (("(":Str)==")")=false ∧ (("(":Str)=="0")=false ∧ (("(":Str)=="call")=false ∧ (("(":Str)=="do")=false ∧ (("(":Str)=="if")=false ∧ (("(":Str)=="let")=false ∧ (("(":Str)=="loop")=false ∧ (("(":Str)=="many")=false ∧ (("(":Str)=="mark")=false ∧ (("(":Str)=="melt")=false ∧ (("(":Str)=="name")=false := by decide +kernel
@[simp] theorem sn_1_12 : ¬("(":Str)="no" ∧ ¬("(":Str)="number" ∧ ¬("(":Str)="parts" ∧ ¬("(":Str)="pick" ∧ ¬("(":Str)="raise" ∧ ¬("(":Str)="truth" ∧ ¬("(":Str)="try" ∧ ¬("(":Str)="yes" := by decide +kernel
@[simp] theorem sb_1_12 : (("(":Str)=="no")=false ∧ (("(":Str)=="number")=false ∧ (("(":Str)=="parts")=false ∧ (("(":Str)=="pick")=false ∧ (("(":Str)=="raise")=false ∧ (("(":Str)=="truth")=false ∧ (("(":Str)=="try")=false ∧ (("(":Str)=="yes")=false := by decide +kernel
@[simp] theorem sn_2_0 : ¬(")":Str)="" ∧ ¬(")":Str)="(" ∧ ¬(")":Str)="0" ∧ ¬(")":Str)="call" ∧ ¬(")":Str)="do" ∧ ¬(")":Str)="if" ∧ ¬(")":Str)="let" ∧ ¬(")":Str)="loop" ∧ ¬(")":Str)="many" ∧ ¬(")":Str)="mark" ∧ ¬(")":Str)="melt" ∧ ¬(")":Str)="name" := by decide +kernel
@[simp] theorem sb_2_0 : ((")":Str)=="")=false ∧ ((")":Str)=="(")=false ∧ ((")":Str)=="0")=false ∧ ((")":Str)=="call")=false ∧ ((")":Str)=="do")=false ∧ ((")":Str)=="if")=false ∧ ((")":Str)=="let")=false ∧ ((")":Str)=="loop")=false ∧ ((")":Str)=="many")=false ∧ ((")":Str)=="mark")=false ∧ ((")":Str)=="melt")=false ∧ ((")":Str)=="name")=false := by decide +kernel
@[simp] theorem sn_2_12 : ¬(")":Str)="no" ∧ ¬(")":Str)="number" ∧ ¬(")":Str)="parts" ∧ ¬(")":Str)="pick" ∧ ¬(")":Str)="raise" ∧ ¬(")":Str)="truth" ∧ ¬(")":Str)="try" ∧ ¬(")":Str)="yes" := by decide +kernel
@[simp] theorem sb_2_12 : ((")":Str)=="no")=false ∧ ((")":Str)=="number")=false ∧ ((")":Str)=="parts")=false ∧ ((")":Str)=="pick")=false ∧ ((")":Str)=="raise")=false ∧ ((")":Str)=="truth")=false ∧ ((")":Str)=="try")=false ∧ ((")":Str)=="yes")=false := by decide +kernel
@[simp] theorem sn_3_0 : ¬("0":Str)="" ∧ ¬("0":Str)="(" ∧ ¬("0":Str)=")" ∧ ¬("0":Str)="call" ∧ ¬("0":Str)="do" ∧ ¬("0":Str)="if" ∧ ¬("0":Str)="let" ∧ ¬("0":Str)="loop" ∧ ¬("0":Str)="many" ∧ ¬("0":Str)="mark" ∧ ¬("0":Str)="melt" ∧ ¬("0":Str)="name" := by decide +kernel
@[simp] theorem sb_3_0 : (("0":Str)=="")=false ∧ (("0":Str)=="(")=false ∧ (("0":Str)==")")=false ∧ (("0":Str)=="call")=false ∧ (("0":Str)=="do")=false ∧ (("0":Str)=="if")=false ∧ (("0":Str)=="let")=false ∧ (("0":Str)=="loop")=false ∧ (("0":Str)=="many")=false ∧ (("0":Str)=="mark")=false ∧ (("0":Str)=="melt")=false ∧ (("0":Str)=="name")=false := by decide +kernel
@[simp] theorem sn_3_12 : ¬("0":Str)="no" ∧ ¬("0":Str)="number" ∧ ¬("0":Str)="parts" ∧ ¬("0":Str)="pick" ∧ ¬("0":Str)="raise" ∧ ¬("0":Str)="truth" ∧ ¬("0":Str)="try" ∧ ¬("0":Str)="yes" := by decide +kernel
@[simp] theorem sb_3_12 : (("0":Str)=="no")=false ∧ (("0":Str)=="number")=false ∧ (("0":Str)=="parts")=false ∧ (("0":Str)=="pick")=false ∧ (("0":Str)=="raise")=false ∧ (("0":Str)=="truth")=false ∧ (("0":Str)=="try")=false ∧ (("0":Str)=="yes")=false := by decide +kernel
@[simp] theorem sn_4_0 : ¬("call":Str)="" ∧ ¬("call":Str)="(" ∧ ¬("call":Str)=")" ∧ ¬("call":Str)="0" ∧ ¬("call":Str)="do" ∧ ¬("call":Str)="if" ∧ ¬("call":Str)="let" ∧ ¬("call":Str)="loop" ∧ ¬("call":Str)="many" ∧ ¬("call":Str)="mark" ∧ ¬("call":Str)="melt" ∧ ¬("call":Str)="name" := by decide +kernel
@[simp] theorem sb_4_0 : (("call":Str)=="")=false ∧ (("call":Str)=="(")=false ∧ (("call":Str)==")")=false ∧ (("call":Str)=="0")=false ∧ (("call":Str)=="do")=false ∧ (("call":Str)=="if")=false ∧ (("call":Str)=="let")=false ∧ (("call":Str)=="loop")=false ∧ (("call":Str)=="many")=false ∧ (("call":Str)=="mark")=false ∧ (("call":Str)=="melt")=false ∧ (("call":Str)=="name")=false := by decide +kernel
@[simp] theorem sn_4_12 : ¬("call":Str)="no" ∧ ¬("call":Str)="number" ∧ ¬("call":Str)="parts" ∧ ¬("call":Str)="pick" ∧ ¬("call":Str)="raise" ∧ ¬("call":Str)="truth" ∧ ¬("call":Str)="try" ∧ ¬("call":Str)="yes" := by decide +kernel
@[simp] theorem sb_4_12 : (("call":Str)=="no")=false ∧ (("call":Str)=="number")=false ∧ (("call":Str)=="parts")=false ∧ (("call":Str)=="pick")=false ∧ (("call":Str)=="raise")=false ∧ (("call":Str)=="truth")=false ∧ (("call":Str)=="try")=false ∧ (("call":Str)=="yes")=false := by decide +kernel
@[simp] theorem sn_5_0 : ¬("do":Str)="" ∧ ¬("do":Str)="(" ∧ ¬("do":Str)=")" ∧ ¬("do":Str)="0" ∧ ¬("do":Str)="call" ∧ ¬("do":Str)="if" ∧ ¬("do":Str)="let" ∧ ¬("do":Str)="loop" ∧ ¬("do":Str)="many" ∧ ¬("do":Str)="mark" ∧ ¬("do":Str)="melt" ∧ ¬("do":Str)="name" := by decide +kernel
@[simp] theorem sb_5_0 : (("do":Str)=="")=false ∧ (("do":Str)=="(")=false ∧ (("do":Str)==")")=false ∧ (("do":Str)=="0")=false ∧ (("do":Str)=="call")=false ∧ (("do":Str)=="if")=false ∧ (("do":Str)=="let")=false ∧ (("do":Str)=="loop")=false ∧ (("do":Str)=="many")=false ∧ (("do":Str)=="mark")=false ∧ (("do":Str)=="melt")=false ∧ (("do":Str)=="name")=false := by decide +kernel
@[simp] theorem sn_5_12 : ¬("do":Str)="no" ∧ ¬("do":Str)="number" ∧ ¬("do":Str)="parts" ∧ ¬("do":Str)="pick" ∧ ¬("do":Str)="raise" ∧ ¬("do":Str)="truth" ∧ ¬("do":Str)="try" ∧ ¬("do":Str)="yes" := by decide +kernel
@[simp] theorem sb_5_12 : (("do":Str)=="no")=false ∧ (("do":Str)=="number")=false ∧ (("do":Str)=="parts")=false ∧ (("do":Str)=="pick")=false ∧ (("do":Str)=="raise")=false ∧ (("do":Str)=="truth")=false ∧ (("do":Str)=="try")=false ∧ (("do":Str)=="yes")=false := by decide +kernel
@[simp] theorem sn_6_0 : ¬("if":Str)="" ∧ ¬("if":Str)="(" ∧ ¬("if":Str)=")" ∧ ¬("if":Str)="0" ∧ ¬("if":Str)="call" ∧ ¬("if":Str)="do" ∧ ¬("if":Str)="let" ∧ ¬("if":Str)="loop" ∧ ¬("if":Str)="many" ∧ ¬("if":Str)="mark" ∧ ¬("if":Str)="melt" ∧ ¬("if":Str)="name" := by decide +kernel
@[simp] theorem sb_6_0 : (("if":Str)=="")=false ∧ (("if":Str)=="(")=false ∧ (("if":Str)==")")=false ∧ (("if":Str)=="0")=false ∧ (("if":Str)=="call")=false ∧ (("if":Str)=="do")=false ∧ (("if":Str)=="let")=false ∧ (("if":Str)=="loop")=false ∧ (("if":Str)=="many")=false ∧ (("if":Str)=="mark")=false ∧ (("if":Str)=="melt")=false ∧ (("if":Str)=="name")=false := by decide +kernel
@[simp] theorem sn_6_12 : ¬("if":Str)="no" ∧ ¬("if":Str)="number" ∧ ¬("if":Str)="parts" ∧ ¬("if":Str)="pick" ∧ ¬("if":Str)="raise" ∧ ¬("if":Str)="truth" ∧ ¬("if":Str)="try" ∧ ¬("if":Str)="yes" := by decide +kernel
@[simp] theorem sb_6_12 : (("if":Str)=="no")=false ∧ (("if":Str)=="number")=false ∧ (("if":Str)=="parts")=false ∧ (("if":Str)=="pick")=false ∧ (("if":Str)=="raise")=false ∧ (("if":Str)=="truth")=false ∧ (("if":Str)=="try")=false ∧ (("if":Str)=="yes")=false := by decide +kernel
@[simp] theorem sn_7_0 : ¬("let":Str)="" ∧ ¬("let":Str)="(" ∧ ¬("let":Str)=")" ∧ ¬("let":Str)="0" ∧ ¬("let":Str)="call" ∧ ¬("let":Str)="do" ∧ ¬("let":Str)="if" ∧ ¬("let":Str)="loop" ∧ ¬("let":Str)="many" ∧ ¬("let":Str)="mark" ∧ ¬("let":Str)="melt" ∧ ¬("let":Str)="name" := by decide +kernel
@[simp] theorem sb_7_0 : (("let":Str)=="")=false ∧ (("let":Str)=="(")=false ∧ (("let":Str)==")")=false ∧ (("let":Str)=="0")=false ∧ (("let":Str)=="call")=false ∧ (("let":Str)=="do")=false ∧ (("let":Str)=="if")=false ∧ (("let":Str)=="loop")=false ∧ (("let":Str)=="many")=false ∧ (("let":Str)=="mark")=false ∧ (("let":Str)=="melt")=false ∧ (("let":Str)=="name")=false := by decide +kernel
@[simp] theorem sn_7_12 : ¬("let":Str)="no" ∧ ¬("let":Str)="number" ∧ ¬("let":Str)="parts" ∧ ¬("let":Str)="pick" ∧ ¬("let":Str)="raise" ∧ ¬("let":Str)="truth" ∧ ¬("let":Str)="try" ∧ ¬("let":Str)="yes" := by decide +kernel
@[simp] theorem sb_7_12 : (("let":Str)=="no")=false ∧ (("let":Str)=="number")=false ∧ (("let":Str)=="parts")=false ∧ (("let":Str)=="pick")=false ∧ (("let":Str)=="raise")=false ∧ (("let":Str)=="truth")=false ∧ (("let":Str)=="try")=false ∧ (("let":Str)=="yes")=false := by decide +kernel
@[simp] theorem sn_8_0 : ¬("loop":Str)="" ∧ ¬("loop":Str)="(" ∧ ¬("loop":Str)=")" ∧ ¬("loop":Str)="0" ∧ ¬("loop":Str)="call" ∧ ¬("loop":Str)="do" ∧ ¬("loop":Str)="if" ∧ ¬("loop":Str)="let" ∧ ¬("loop":Str)="many" ∧ ¬("loop":Str)="mark" ∧ ¬("loop":Str)="melt" ∧ ¬("loop":Str)="name" := by decide +kernel
@[simp] theorem sb_8_0 : (("loop":Str)=="")=false ∧ (("loop":Str)=="(")=false ∧ (("loop":Str)==")")=false ∧ (("loop":Str)=="0")=false ∧ (("loop":Str)=="call")=false ∧ (("loop":Str)=="do")=false ∧ (("loop":Str)=="if")=false ∧ (("loop":Str)=="let")=false ∧ (("loop":Str)=="many")=false ∧ (("loop":Str)=="mark")=false ∧ (("loop":Str)=="melt")=false ∧ (("loop":Str)=="name")=false := by decide +kernel
@[simp] theorem sn_8_12 : ¬("loop":Str)="no" ∧ ¬("loop":Str)="number" ∧ ¬("loop":Str)="parts" ∧ ¬("loop":Str)="pick" ∧ ¬("loop":Str)="raise" ∧ ¬("loop":Str)="truth" ∧ ¬("loop":Str)="try" ∧ ¬("loop":Str)="yes" := by decide +kernel
@[simp] theorem sb_8_12 : (("loop":Str)=="no")=false ∧ (("loop":Str)=="number")=false ∧ (("loop":Str)=="parts")=false ∧ (("loop":Str)=="pick")=false ∧ (("loop":Str)=="raise")=false ∧ (("loop":Str)=="truth")=false ∧ (("loop":Str)=="try")=false ∧ (("loop":Str)=="yes")=false := by decide +kernel
@[simp] theorem sn_9_0 : ¬("many":Str)="" ∧ ¬("many":Str)="(" ∧ ¬("many":Str)=")" ∧ ¬("many":Str)="0" ∧ ¬("many":Str)="call" ∧ ¬("many":Str)="do" ∧ ¬("many":Str)="if" ∧ ¬("many":Str)="let" ∧ ¬("many":Str)="loop" ∧ ¬("many":Str)="mark" ∧ ¬("many":Str)="melt" ∧ ¬("many":Str)="name" := by decide +kernel
@[simp] theorem sb_9_0 : (("many":Str)=="")=false ∧ (("many":Str)=="(")=false ∧ (("many":Str)==")")=false ∧ (("many":Str)=="0")=false ∧ (("many":Str)=="call")=false ∧ (("many":Str)=="do")=false ∧ (("many":Str)=="if")=false ∧ (("many":Str)=="let")=false ∧ (("many":Str)=="loop")=false ∧ (("many":Str)=="mark")=false ∧ (("many":Str)=="melt")=false ∧ (("many":Str)=="name")=false := by decide +kernel
@[simp] theorem sn_9_12 : ¬("many":Str)="no" ∧ ¬("many":Str)="number" ∧ ¬("many":Str)="parts" ∧ ¬("many":Str)="pick" ∧ ¬("many":Str)="raise" ∧ ¬("many":Str)="truth" ∧ ¬("many":Str)="try" ∧ ¬("many":Str)="yes" := by decide +kernel
@[simp] theorem sb_9_12 : (("many":Str)=="no")=false ∧ (("many":Str)=="number")=false ∧ (("many":Str)=="parts")=false ∧ (("many":Str)=="pick")=false ∧ (("many":Str)=="raise")=false ∧ (("many":Str)=="truth")=false ∧ (("many":Str)=="try")=false ∧ (("many":Str)=="yes")=false := by decide +kernel
@[simp] theorem sn_10_0 : ¬("mark":Str)="" ∧ ¬("mark":Str)="(" ∧ ¬("mark":Str)=")" ∧ ¬("mark":Str)="0" ∧ ¬("mark":Str)="call" ∧ ¬("mark":Str)="do" ∧ ¬("mark":Str)="if" ∧ ¬("mark":Str)="let" ∧ ¬("mark":Str)="loop" ∧ ¬("mark":Str)="many" ∧ ¬("mark":Str)="melt" ∧ ¬("mark":Str)="name" := by decide +kernel
@[simp] theorem sb_10_0 : (("mark":Str)=="")=false ∧ (("mark":Str)=="(")=false ∧ (("mark":Str)==")")=false ∧ (("mark":Str)=="0")=false ∧ (("mark":Str)=="call")=false ∧ (("mark":Str)=="do")=false ∧ (("mark":Str)=="if")=false ∧ (("mark":Str)=="let")=false ∧ (("mark":Str)=="loop")=false ∧ (("mark":Str)=="many")=false ∧ (("mark":Str)=="melt")=false ∧ (("mark":Str)=="name")=false := by decide +kernel
@[simp] theorem sn_10_12 : ¬("mark":Str)="no" ∧ ¬("mark":Str)="number" ∧ ¬("mark":Str)="parts" ∧ ¬("mark":Str)="pick" ∧ ¬("mark":Str)="raise" ∧ ¬("mark":Str)="truth" ∧ ¬("mark":Str)="try" ∧ ¬("mark":Str)="yes" := by decide +kernel
@[simp] theorem sb_10_12 : (("mark":Str)=="no")=false ∧ (("mark":Str)=="number")=false ∧ (("mark":Str)=="parts")=false ∧ (("mark":Str)=="pick")=false ∧ (("mark":Str)=="raise")=false ∧ (("mark":Str)=="truth")=false ∧ (("mark":Str)=="try")=false ∧ (("mark":Str)=="yes")=false := by decide +kernel
@[simp] theorem sn_11_0 : ¬("melt":Str)="" ∧ ¬("melt":Str)="(" ∧ ¬("melt":Str)=")" ∧ ¬("melt":Str)="0" ∧ ¬("melt":Str)="call" ∧ ¬("melt":Str)="do" ∧ ¬("melt":Str)="if" ∧ ¬("melt":Str)="let" ∧ ¬("melt":Str)="loop" ∧ ¬("melt":Str)="many" ∧ ¬("melt":Str)="mark" ∧ ¬("melt":Str)="name" := by decide +kernel
@[simp] theorem sb_11_0 : (("melt":Str)=="")=false ∧ (("melt":Str)=="(")=false ∧ (("melt":Str)==")")=false ∧ (("melt":Str)=="0")=false ∧ (("melt":Str)=="call")=false ∧ (("melt":Str)=="do")=false ∧ (("melt":Str)=="if")=false ∧ (("melt":Str)=="let")=false ∧ (("melt":Str)=="loop")=false ∧ (("melt":Str)=="many")=false ∧ (("melt":Str)=="mark")=false ∧ (("melt":Str)=="name")=false := by decide +kernel
@[simp] theorem sn_11_12 : ¬("melt":Str)="no" ∧ ¬("melt":Str)="number" ∧ ¬("melt":Str)="parts" ∧ ¬("melt":Str)="pick" ∧ ¬("melt":Str)="raise" ∧ ¬("melt":Str)="truth" ∧ ¬("melt":Str)="try" ∧ ¬("melt":Str)="yes" := by decide +kernel
@[simp] theorem sb_11_12 : (("melt":Str)=="no")=false ∧ (("melt":Str)=="number")=false ∧ (("melt":Str)=="parts")=false ∧ (("melt":Str)=="pick")=false ∧ (("melt":Str)=="raise")=false ∧ (("melt":Str)=="truth")=false ∧ (("melt":Str)=="try")=false ∧ (("melt":Str)=="yes")=false := by decide +kernel
@[simp] theorem sn_12_0 : ¬("name":Str)="" ∧ ¬("name":Str)="(" ∧ ¬("name":Str)=")" ∧ ¬("name":Str)="0" ∧ ¬("name":Str)="call" ∧ ¬("name":Str)="do" ∧ ¬("name":Str)="if" ∧ ¬("name":Str)="let" ∧ ¬("name":Str)="loop" ∧ ¬("name":Str)="many" ∧ ¬("name":Str)="mark" ∧ ¬("name":Str)="melt" := by decide +kernel
@[simp] theorem sb_12_0 : (("name":Str)=="")=false ∧ (("name":Str)=="(")=false ∧ (("name":Str)==")")=false ∧ (("name":Str)=="0")=false ∧ (("name":Str)=="call")=false ∧ (("name":Str)=="do")=false ∧ (("name":Str)=="if")=false ∧ (("name":Str)=="let")=false ∧ (("name":Str)=="loop")=false ∧ (("name":Str)=="many")=false ∧ (("name":Str)=="mark")=false ∧ (("name":Str)=="melt")=false := by decide +kernel
@[simp] theorem sn_12_12 : ¬("name":Str)="no" ∧ ¬("name":Str)="number" ∧ ¬("name":Str)="parts" ∧ ¬("name":Str)="pick" ∧ ¬("name":Str)="raise" ∧ ¬("name":Str)="truth" ∧ ¬("name":Str)="try" ∧ ¬("name":Str)="yes" := by decide +kernel
@[simp] theorem sb_12_12 : (("name":Str)=="no")=false ∧ (("name":Str)=="number")=false ∧ (("name":Str)=="parts")=false ∧ (("name":Str)=="pick")=false ∧ (("name":Str)=="raise")=false ∧ (("name":Str)=="truth")=false ∧ (("name":Str)=="try")=false ∧ (("name":Str)=="yes")=false := by decide +kernel
@[simp] theorem sn_13_0 : ¬("no":Str)="" ∧ ¬("no":Str)="(" ∧ ¬("no":Str)=")" ∧ ¬("no":Str)="0" ∧ ¬("no":Str)="call" ∧ ¬("no":Str)="do" ∧ ¬("no":Str)="if" ∧ ¬("no":Str)="let" ∧ ¬("no":Str)="loop" ∧ ¬("no":Str)="many" ∧ ¬("no":Str)="mark" ∧ ¬("no":Str)="melt" := by decide +kernel
@[simp] theorem sb_13_0 : (("no":Str)=="")=false ∧ (("no":Str)=="(")=false ∧ (("no":Str)==")")=false ∧ (("no":Str)=="0")=false ∧ (("no":Str)=="call")=false ∧ (("no":Str)=="do")=false ∧ (("no":Str)=="if")=false ∧ (("no":Str)=="let")=false ∧ (("no":Str)=="loop")=false ∧ (("no":Str)=="many")=false ∧ (("no":Str)=="mark")=false ∧ (("no":Str)=="melt")=false := by decide +kernel
@[simp] theorem sn_13_12 : ¬("no":Str)="name" ∧ ¬("no":Str)="number" ∧ ¬("no":Str)="parts" ∧ ¬("no":Str)="pick" ∧ ¬("no":Str)="raise" ∧ ¬("no":Str)="truth" ∧ ¬("no":Str)="try" ∧ ¬("no":Str)="yes" := by decide +kernel
@[simp] theorem sb_13_12 : (("no":Str)=="name")=false ∧ (("no":Str)=="number")=false ∧ (("no":Str)=="parts")=false ∧ (("no":Str)=="pick")=false ∧ (("no":Str)=="raise")=false ∧ (("no":Str)=="truth")=false ∧ (("no":Str)=="try")=false ∧ (("no":Str)=="yes")=false := by decide +kernel
@[simp] theorem sn_14_0 : ¬("number":Str)="" ∧ ¬("number":Str)="(" ∧ ¬("number":Str)=")" ∧ ¬("number":Str)="0" ∧ ¬("number":Str)="call" ∧ ¬("number":Str)="do" ∧ ¬("number":Str)="if" ∧ ¬("number":Str)="let" ∧ ¬("number":Str)="loop" ∧ ¬("number":Str)="many" ∧ ¬("number":Str)="mark" ∧ ¬("number":Str)="melt" := by decide +kernel
@[simp] theorem sb_14_0 : (("number":Str)=="")=false ∧ (("number":Str)=="(")=false ∧ (("number":Str)==")")=false ∧ (("number":Str)=="0")=false ∧ (("number":Str)=="call")=false ∧ (("number":Str)=="do")=false ∧ (("number":Str)=="if")=false ∧ (("number":Str)=="let")=false ∧ (("number":Str)=="loop")=false ∧ (("number":Str)=="many")=false ∧ (("number":Str)=="mark")=false ∧ (("number":Str)=="melt")=false := by decide +kernel
@[simp] theorem sn_14_12 : ¬("number":Str)="name" ∧ ¬("number":Str)="no" ∧ ¬("number":Str)="parts" ∧ ¬("number":Str)="pick" ∧ ¬("number":Str)="raise" ∧ ¬("number":Str)="truth" ∧ ¬("number":Str)="try" ∧ ¬("number":Str)="yes" := by decide +kernel
@[simp] theorem sb_14_12 : (("number":Str)=="name")=false ∧ (("number":Str)=="no")=false ∧ (("number":Str)=="parts")=false ∧ (("number":Str)=="pick")=false ∧ (("number":Str)=="raise")=false ∧ (("number":Str)=="truth")=false ∧ (("number":Str)=="try")=false ∧ (("number":Str)=="yes")=false := by decide +kernel
@[simp] theorem sn_15_0 : ¬("parts":Str)="" ∧ ¬("parts":Str)="(" ∧ ¬("parts":Str)=")" ∧ ¬("parts":Str)="0" ∧ ¬("parts":Str)="call" ∧ ¬("parts":Str)="do" ∧ ¬("parts":Str)="if" ∧ ¬("parts":Str)="let" ∧ ¬("parts":Str)="loop" ∧ ¬("parts":Str)="many" ∧ ¬("parts":Str)="mark" ∧ ¬("parts":Str)="melt" := by decide +kernel
@[simp] theorem sb_15_0 : (("parts":Str)=="")=false ∧ (("parts":Str)=="(")=false ∧ (("parts":Str)==")")=false ∧ (("parts":Str)=="0")=false ∧ (("parts":Str)=="call")=false ∧ (("parts":Str)=="do")=false ∧ (("parts":Str)=="if")=false ∧ (("parts":Str)=="let")=false ∧ (("parts":Str)=="loop")=false ∧ (("parts":Str)=="many")=false ∧ (("parts":Str)=="mark")=false ∧ (("parts":Str)=="melt")=false := by decide +kernel
@[simp] theorem sn_15_12 : ¬("parts":Str)="name" ∧ ¬("parts":Str)="no" ∧ ¬("parts":Str)="number" ∧ ¬("parts":Str)="pick" ∧ ¬("parts":Str)="raise" ∧ ¬("parts":Str)="truth" ∧ ¬("parts":Str)="try" ∧ ¬("parts":Str)="yes" := by decide +kernel
@[simp] theorem sb_15_12 : (("parts":Str)=="name")=false ∧ (("parts":Str)=="no")=false ∧ (("parts":Str)=="number")=false ∧ (("parts":Str)=="pick")=false ∧ (("parts":Str)=="raise")=false ∧ (("parts":Str)=="truth")=false ∧ (("parts":Str)=="try")=false ∧ (("parts":Str)=="yes")=false := by decide +kernel
@[simp] theorem sn_16_0 : ¬("pick":Str)="" ∧ ¬("pick":Str)="(" ∧ ¬("pick":Str)=")" ∧ ¬("pick":Str)="0" ∧ ¬("pick":Str)="call" ∧ ¬("pick":Str)="do" ∧ ¬("pick":Str)="if" ∧ ¬("pick":Str)="let" ∧ ¬("pick":Str)="loop" ∧ ¬("pick":Str)="many" ∧ ¬("pick":Str)="mark" ∧ ¬("pick":Str)="melt" := by decide +kernel
@[simp] theorem sb_16_0 : (("pick":Str)=="")=false ∧ (("pick":Str)=="(")=false ∧ (("pick":Str)==")")=false ∧ (("pick":Str)=="0")=false ∧ (("pick":Str)=="call")=false ∧ (("pick":Str)=="do")=false ∧ (("pick":Str)=="if")=false ∧ (("pick":Str)=="let")=false ∧ (("pick":Str)=="loop")=false ∧ (("pick":Str)=="many")=false ∧ (("pick":Str)=="mark")=false ∧ (("pick":Str)=="melt")=false := by decide +kernel
@[simp] theorem sn_16_12 : ¬("pick":Str)="name" ∧ ¬("pick":Str)="no" ∧ ¬("pick":Str)="number" ∧ ¬("pick":Str)="parts" ∧ ¬("pick":Str)="raise" ∧ ¬("pick":Str)="truth" ∧ ¬("pick":Str)="try" ∧ ¬("pick":Str)="yes" := by decide +kernel
@[simp] theorem sb_16_12 : (("pick":Str)=="name")=false ∧ (("pick":Str)=="no")=false ∧ (("pick":Str)=="number")=false ∧ (("pick":Str)=="parts")=false ∧ (("pick":Str)=="raise")=false ∧ (("pick":Str)=="truth")=false ∧ (("pick":Str)=="try")=false ∧ (("pick":Str)=="yes")=false := by decide +kernel
@[simp] theorem sn_17_0 : ¬("raise":Str)="" ∧ ¬("raise":Str)="(" ∧ ¬("raise":Str)=")" ∧ ¬("raise":Str)="0" ∧ ¬("raise":Str)="call" ∧ ¬("raise":Str)="do" ∧ ¬("raise":Str)="if" ∧ ¬("raise":Str)="let" ∧ ¬("raise":Str)="loop" ∧ ¬("raise":Str)="many" ∧ ¬("raise":Str)="mark" ∧ ¬("raise":Str)="melt" := by decide +kernel
@[simp] theorem sb_17_0 : (("raise":Str)=="")=false ∧ (("raise":Str)=="(")=false ∧ (("raise":Str)==")")=false ∧ (("raise":Str)=="0")=false ∧ (("raise":Str)=="call")=false ∧ (("raise":Str)=="do")=false ∧ (("raise":Str)=="if")=false ∧ (("raise":Str)=="let")=false ∧ (("raise":Str)=="loop")=false ∧ (("raise":Str)=="many")=false ∧ (("raise":Str)=="mark")=false ∧ (("raise":Str)=="melt")=false := by decide +kernel
@[simp] theorem sn_17_12 : ¬("raise":Str)="name" ∧ ¬("raise":Str)="no" ∧ ¬("raise":Str)="number" ∧ ¬("raise":Str)="parts" ∧ ¬("raise":Str)="pick" ∧ ¬("raise":Str)="truth" ∧ ¬("raise":Str)="try" ∧ ¬("raise":Str)="yes" := by decide +kernel
@[simp] theorem sb_17_12 : (("raise":Str)=="name")=false ∧ (("raise":Str)=="no")=false ∧ (("raise":Str)=="number")=false ∧ (("raise":Str)=="parts")=false ∧ (("raise":Str)=="pick")=false ∧ (("raise":Str)=="truth")=false ∧ (("raise":Str)=="try")=false ∧ (("raise":Str)=="yes")=false := by decide +kernel
@[simp] theorem sn_18_0 : ¬("truth":Str)="" ∧ ¬("truth":Str)="(" ∧ ¬("truth":Str)=")" ∧ ¬("truth":Str)="0" ∧ ¬("truth":Str)="call" ∧ ¬("truth":Str)="do" ∧ ¬("truth":Str)="if" ∧ ¬("truth":Str)="let" ∧ ¬("truth":Str)="loop" ∧ ¬("truth":Str)="many" ∧ ¬("truth":Str)="mark" ∧ ¬("truth":Str)="melt" := by decide +kernel
@[simp] theorem sb_18_0 : (("truth":Str)=="")=false ∧ (("truth":Str)=="(")=false ∧ (("truth":Str)==")")=false ∧ (("truth":Str)=="0")=false ∧ (("truth":Str)=="call")=false ∧ (("truth":Str)=="do")=false ∧ (("truth":Str)=="if")=false ∧ (("truth":Str)=="let")=false ∧ (("truth":Str)=="loop")=false ∧ (("truth":Str)=="many")=false ∧ (("truth":Str)=="mark")=false ∧ (("truth":Str)=="melt")=false := by decide +kernel
@[simp] theorem sn_18_12 : ¬("truth":Str)="name" ∧ ¬("truth":Str)="no" ∧ ¬("truth":Str)="number" ∧ ¬("truth":Str)="parts" ∧ ¬("truth":Str)="pick" ∧ ¬("truth":Str)="raise" ∧ ¬("truth":Str)="try" ∧ ¬("truth":Str)="yes" := by decide +kernel
@[simp] theorem sb_18_12 : (("truth":Str)=="name")=false ∧ (("truth":Str)=="no")=false ∧ (("truth":Str)=="number")=false ∧ (("truth":Str)=="parts")=false ∧ (("truth":Str)=="pick")=false ∧ (("truth":Str)=="raise")=false ∧ (("truth":Str)=="try")=false ∧ (("truth":Str)=="yes")=false := by decide +kernel
@[simp] theorem sn_19_0 : ¬("try":Str)="" ∧ ¬("try":Str)="(" ∧ ¬("try":Str)=")" ∧ ¬("try":Str)="0" ∧ ¬("try":Str)="call" ∧ ¬("try":Str)="do" ∧ ¬("try":Str)="if" ∧ ¬("try":Str)="let" ∧ ¬("try":Str)="loop" ∧ ¬("try":Str)="many" ∧ ¬("try":Str)="mark" ∧ ¬("try":Str)="melt" := by decide +kernel
@[simp] theorem sb_19_0 : (("try":Str)=="")=false ∧ (("try":Str)=="(")=false ∧ (("try":Str)==")")=false ∧ (("try":Str)=="0")=false ∧ (("try":Str)=="call")=false ∧ (("try":Str)=="do")=false ∧ (("try":Str)=="if")=false ∧ (("try":Str)=="let")=false ∧ (("try":Str)=="loop")=false ∧ (("try":Str)=="many")=false ∧ (("try":Str)=="mark")=false ∧ (("try":Str)=="melt")=false := by decide +kernel
@[simp] theorem sn_19_12 : ¬("try":Str)="name" ∧ ¬("try":Str)="no" ∧ ¬("try":Str)="number" ∧ ¬("try":Str)="parts" ∧ ¬("try":Str)="pick" ∧ ¬("try":Str)="raise" ∧ ¬("try":Str)="truth" ∧ ¬("try":Str)="yes" := by decide +kernel
@[simp] theorem sb_19_12 : (("try":Str)=="name")=false ∧ (("try":Str)=="no")=false ∧ (("try":Str)=="number")=false ∧ (("try":Str)=="parts")=false ∧ (("try":Str)=="pick")=false ∧ (("try":Str)=="raise")=false ∧ (("try":Str)=="truth")=false ∧ (("try":Str)=="yes")=false := by decide +kernel
@[simp] theorem sn_20_0 : ¬("yes":Str)="" ∧ ¬("yes":Str)="(" ∧ ¬("yes":Str)=")" ∧ ¬("yes":Str)="0" ∧ ¬("yes":Str)="call" ∧ ¬("yes":Str)="do" ∧ ¬("yes":Str)="if" ∧ ¬("yes":Str)="let" ∧ ¬("yes":Str)="loop" ∧ ¬("yes":Str)="many" ∧ ¬("yes":Str)="mark" ∧ ¬("yes":Str)="melt" := by decide +kernel
@[simp] theorem sb_20_0 : (("yes":Str)=="")=false ∧ (("yes":Str)=="(")=false ∧ (("yes":Str)==")")=false ∧ (("yes":Str)=="0")=false ∧ (("yes":Str)=="call")=false ∧ (("yes":Str)=="do")=false ∧ (("yes":Str)=="if")=false ∧ (("yes":Str)=="let")=false ∧ (("yes":Str)=="loop")=false ∧ (("yes":Str)=="many")=false ∧ (("yes":Str)=="mark")=false ∧ (("yes":Str)=="melt")=false := by decide +kernel
@[simp] theorem sn_20_12 : ¬("yes":Str)="name" ∧ ¬("yes":Str)="no" ∧ ¬("yes":Str)="number" ∧ ¬("yes":Str)="parts" ∧ ¬("yes":Str)="pick" ∧ ¬("yes":Str)="raise" ∧ ¬("yes":Str)="truth" ∧ ¬("yes":Str)="try" := by decide +kernel
@[simp] theorem sb_20_12 : (("yes":Str)=="name")=false ∧ (("yes":Str)=="no")=false ∧ (("yes":Str)=="number")=false ∧ (("yes":Str)=="parts")=false ∧ (("yes":Str)=="pick")=false ∧ (("yes":Str)=="raise")=false ∧ (("yes":Str)=="truth")=false ∧ (("yes":Str)=="try")=false := by decide +kernel
noncomputable def topS (i : Nat) : Stmt := PySem.Challenge.pw_callmelt_k21_trees_shown_and_read.main.body.getD i (.Pass ⟨0, 0, 0, 0⟩)
noncomputable abbrev s_shown_parts : Stmt := topS 1
theorem sc_shown_parts : FnScope ["tree", "word", "pairs", "name", "part"] ["tree"] (defScope s_shown_parts) := ⟨rfl, rfl, rfl, by decide +kernel, rfl, by decide +kernel, by decide +kernel⟩
noncomputable abbrev s_show_tree : Stmt := topS 2
theorem sc_show_tree : FnScope ["tree"] ["tree"] (defScope s_show_tree) := ⟨rfl, rfl, rfl, by decide +kernel, rfl, by decide +kernel, by decide +kernel⟩
noncomputable abbrev s_is_whole : Stmt := topS 12
theorem sc_is_whole : FnScope ["thing"] ["thing"] (defScope s_is_whole) := ⟨rfl, rfl, rfl, by decide +kernel, rfl, by decide +kernel, by decide +kernel⟩
noncomputable abbrev s_is_from_to : Stmt := topS 13
theorem sc_is_from_to : FnScope ["thing", "least", "most"] ["thing", "least", "most"] (defScope s_is_from_to) := ⟨rfl, rfl, rfl, by decide +kernel, rfl, by decide +kernel, by decide +kernel⟩
noncomputable abbrev s_stem_of : Stmt := topS 14
theorem sc_stem_of : FnScope ["word"] ["word"] (defScope s_stem_of) := ⟨rfl, rfl, rfl, by decide +kernel, rfl, by decide +kernel, by decide +kernel⟩
noncomputable abbrev s_is_word : Stmt := topS 15
theorem sc_is_word : FnScope ["thing", "stem", "number", "sign"] ["thing"] (defScope s_is_word) := ⟨rfl, rfl, rfl, by decide +kernel, rfl, by decide +kernel, by decide +kernel⟩
noncomputable abbrev s_is_row : Stmt := topS 24
theorem sc_is_row : FnScope ["thing"] ["thing"] (defScope s_is_row) := ⟨rfl, rfl, rfl, by decide +kernel, rfl, by decide +kernel, by decide +kernel⟩
noncomputable abbrev s_is_bare : Stmt := topS 25
theorem sc_is_bare : FnScope ["thing"] ["thing"] (defScope s_is_bare) := ⟨rfl, rfl, rfl, by decide +kernel, rfl, by decide +kernel, by decide +kernel⟩
noncomputable abbrev s_are_pairs : Stmt := topS 26
theorem sc_are_pairs : FnScope ["thing", "pair", "words", "word", "tree"] ["thing"] (defScope s_are_pairs) := ⟨rfl, rfl, rfl, by decide +kernel, rfl, by decide +kernel, by decide +kernel⟩
noncomputable abbrev s_has_words : Stmt := topS 27
theorem sc_has_words : FnScope ["thing"] ["thing"] (defScope s_has_words) := ⟨rfl, rfl, rfl, by decide +kernel, rfl, by decide +kernel, by decide +kernel⟩
noncomputable abbrev s_is_node : Stmt := topS 28
theorem sc_is_node : FnScope ["thing"] ["thing"] (defScope s_is_node) := ⟨rfl, rfl, rfl, by decide +kernel, rfl, by decide +kernel, by decide +kernel⟩
noncomputable abbrev s_parts_of : Stmt := topS 29
theorem sc_parts_of : FnScope ["tree", "word", "part"] ["tree"] (defScope s_parts_of) := ⟨rfl, rfl, rfl, by decide +kernel, rfl, by decide +kernel, by decide +kernel⟩
noncomputable abbrev s_counted_parts : Stmt := topS 30
theorem sc_counted_parts : FnScope ["tree", "word", "part"] ["tree"] (defScope s_counted_parts) := ⟨rfl, rfl, rfl, by decide +kernel, rfl, by decide +kernel, by decide +kernel⟩
noncomputable abbrev s_is_tree : Stmt := topS 31
theorem sc_is_tree : FnScope ["thing", "waiting", "many", "part", "one", "depth"] ["thing"] (defScope s_is_tree) := ⟨rfl, rfl, rfl, by decide +kernel, rfl, by decide +kernel, by decide +kernel⟩
noncomputable abbrev s_words_in : Stmt := topS 34
theorem sc_words_in : FnScope ["text"] ["text"] (defScope s_words_in) := ⟨rfl, rfl, rfl, by decide +kernel, rfl, by decide +kernel, by decide +kernel⟩
noncomputable abbrev s_number_in : Stmt := topS 35
theorem sc_number_in : FnScope ["word", "sign"] ["word"] (defScope s_number_in) := ⟨rfl, rfl, rfl, by decide +kernel, rfl, by decide +kernel, by decide +kernel⟩
noncomputable abbrev s_read_some : Stmt := topS 37
theorem sc_read_some : FnScope ["reading", "deep", "found"] ["reading", "deep"] (defScope s_read_some) := ⟨rfl, rfl, rfl, by decide +kernel, rfl, by decide +kernel, by decide +kernel⟩
noncomputable abbrev s_read_pairs : Stmt := topS 38
theorem sc_read_pairs : FnScope ["reading", "deep", "found", "word"] ["reading", "deep"] (defScope s_read_pairs) := ⟨rfl, rfl, rfl, by decide +kernel, rfl, by decide +kernel, by decide +kernel⟩
noncomputable abbrev s_read_inside : Stmt := topS 39
theorem sc_read_inside : FnScope ["reading", "word", "deep", "number", "name", "start", "turn", "body", "pairs"] ["reading", "word", "deep"] (defScope s_read_inside) := ⟨rfl, rfl, rfl, by decide +kernel, rfl, by decide +kernel, by decide +kernel⟩
noncomputable abbrev s_read_one : Stmt := topS 40
theorem sc_read_one : FnScope ["reading", "deep", "word", "tree"] ["reading", "deep"] (defScope s_read_one) := ⟨rfl, rfl, rfl, by decide +kernel, rfl, by decide +kernel, by decide +kernel⟩
noncomputable abbrev s_read_tree : Stmt := topS 41
theorem sc_read_tree : FnScope ["text", "reading", "tree"] ["text"] (defScope s_read_tree) := ⟨rfl, rfl, rfl, by decide +kernel, rfl, by decide +kernel, by decide +kernel⟩
noncomputable abbrev s__law_bag : Stmt := topS 43
theorem sc__law_bag : FnScope ["_law_script", "_law_cell"] ["_law_script"] (defScope s__law_bag) := ⟨rfl, rfl, rfl, by decide +kernel, rfl, by decide +kernel, by decide +kernel⟩
noncomputable abbrev s__law_take : Stmt := topS 44
theorem sc__law_take : FnScope ["_law_bag_here", "_law_many", "_law_first", "_law_second", "_law_cell", "_law_value"] ["_law_bag_here", "_law_many"] (defScope s__law_take) := ⟨rfl, rfl, rfl, by decide +kernel, rfl, by decide +kernel, by decide +kernel⟩
noncomputable abbrev s__law_words : Stmt := topS 45
theorem sc__law_words : FnScope ["_law_bag_here", "_law_many", "_law_letters", "_law_some", "_law_way", "_law_turn", "_law_base", "_law_tails", "_law_at", "_law_k", "_law_tail"] ["_law_bag_here", "_law_many"] (defScope s__law_words) := ⟨rfl, rfl, rfl, by decide +kernel, rfl, by decide +kernel, by decide +kernel⟩
noncomputable abbrev s__law_plain : Stmt := topS 46
theorem sc__law_plain : FnScope ["_law_bag_here", "_law_scope", "_law_mild", "_law_way"] ["_law_bag_here", "_law_scope", "_law_mild"] (defScope s__law_plain) := ⟨rfl, rfl, rfl, by decide +kernel, rfl, by decide +kernel, by decide +kernel⟩
noncomputable abbrev s__law_node : Stmt := topS 47
theorem sc__law_node : FnScope ["_law_bag_here", "_law_way", "_law_head", "_law_some", "_law_two", "_law_mild", "_law_one", "_law_number", "_law_test", "_law_turns"] ["_law_bag_here", "_law_way", "_law_head", "_law_some", "_law_two", "_law_mild"] (defScope s__law_node) := ⟨rfl, rfl, rfl, by decide +kernel, rfl, by decide +kernel, by decide +kernel⟩
noncomputable abbrev s__law_any : Stmt := topS 48
theorem sc__law_any : FnScope ["_law_bag_here", "_law_words_here", "_law_room", "_law_deep", "_law_way", "_law_at", "_law_two", "_law_size", "_law_many", "_law_share", "_law_some", "_law_pairs", "_law_k"] ["_law_bag_here", "_law_words_here", "_law_room", "_law_deep"] (defScope s__law_any) := ⟨rfl, rfl, rfl, by decide +kernel, rfl, by decide +kernel, by decide +kernel⟩
noncomputable abbrev s__law_parts : Stmt := topS 49
theorem sc__law_parts : FnScope ["_law_tree", "_law_word", "_law_pair"] ["_law_tree"] (defScope s__law_parts) := ⟨rfl, rfl, rfl, by decide +kernel, rfl, by decide +kernel, by decide +kernel⟩
noncomputable abbrev s__law_shown : Stmt := topS 50
theorem sc__law_shown : FnScope ["_law_tree", "_law_word", "_law_some", "_law_one", "_law_pairs", "_law_k"] ["_law_tree"] (defScope s__law_shown) := ⟨rfl, rfl, rfl, by decide +kernel, rfl, by decide +kernel, by decide +kernel⟩
noncomputable abbrev s_law : Stmt := topS 51
theorem sc_law : FnScope ["_law_script", "_law_bag_here", "_law_words_here", "_law_some", "_law_dues", "_law_turn", "_law_k", "_law_tree", "_law_kept", "_law_found"] ["_law_script"] (defScope s_law) := ⟨rfl, rfl, rfl, by decide +kernel, rfl, by decide +kernel, by decide +kernel⟩
noncomputable abbrev s_Reading____init__ : Stmt := inClass (topS 36) 0
theorem sc_Reading____init__ : FnScope ["self", "words"] ["self", "words"] (defScope s_Reading____init__) := ⟨rfl, rfl, rfl, by decide +kernel, rfl, by decide +kernel, by decide +kernel⟩
noncomputable abbrev s_Reading__ahead : Stmt := inClass (topS 36) 1
theorem sc_Reading__ahead : FnScope ["self"] ["self"] (defScope s_Reading__ahead) := ⟨rfl, rfl, rfl, by decide +kernel, rfl, by decide +kernel, by decide +kernel⟩
noncomputable abbrev s_Reading__taken : Stmt := inClass (topS 36) 2
theorem sc_Reading__taken : FnScope ["self"] ["self"] (defScope s_Reading__taken) := ⟨rfl, rfl, rfl, by decide +kernel, rfl, by decide +kernel, by decide +kernel⟩
noncomputable abbrev s_Reading__need : Stmt := inClass (topS 36) 3
theorem sc_Reading__need : FnScope ["self", "word"] ["self", "word"] (defScope s_Reading__need) := ⟨rfl, rfl, rfl, by decide +kernel, rfl, by decide +kernel, by decide +kernel⟩
structure Gs (w : World) (K : PySem.W.Frag) (mg : Str → Option Value) : Prop where
  n_abs : mg "abs" = none
  n_all : mg "all" = none
  n_bool : mg "bool" = none
  n_int : mg "int" = none
  n_isinstance : mg "isinstance" = none
  n_len : mg "len" = none
  n_list : mg "list" = none
  n_max : mg "max" = none
  n_range : mg "range" = none
  n_repr : mg "repr" = none
  n_set : mg "set" = none
  n_str : mg "str" = none
  n_tuple : mg "tuple" = none
  g_KEPT : GlobD K mg "KEPT" c_KEPT
  g_LETTERS : GlobD K mg "LETTERS" c_LETTERS
  g_FIGURES : GlobD K mg "FIGURES" c_FIGURES
  g_MOST_LETTERS : GlobD K mg "MOST_LETTERS" c_MOST_LETTERS
  g_MOST_FIGURES_words : GlobD K mg "MOST_FIGURES_words" c_MOST_FIGURES_words
  g_PLAIN : GlobD K mg "PLAIN" c_PLAIN
  g_SIGNS : GlobD K mg "SIGNS" c_SIGNS
  g_SHAPES : TabG w K mg "SHAPES" t_SHAPES
  g_MOST_NUMBER : GlobD K mg "MOST_NUMBER" c_MOST_NUMBER
  g_MOST_ARGS : GlobD K mg "MOST_ARGS" c_MOST_ARGS
  g_MOST_NODES : GlobD K mg "MOST_NODES" c_MOST_NODES
  g_MOST_DEPTH : GlobD K mg "MOST_DEPTH" c_MOST_DEPTH
  g_MOST_FIGURES_reader : GlobD K mg "MOST_FIGURES_reader" c_MOST_FIGURES_reader
  a_Reading_read : ClF (kg0 K mg) "Reading" "read"
  a_Reading_words : ClF (kg0 K mg) "Reading" "words"
structure Cs (P : Program) (w : World) (K : PySem.W.Frag) (mg : Str → Option Value) (base : Heap) (n : Nat) (call : Str → List M → CR) : Prop where
  c_shown_parts : FnD P w K mg base n "shown_parts" 1 (call "shown_parts")
  c_show_tree : FnD P w K mg base n "show_tree" 1 (call "show_tree")
  c_is_whole : FnD P w K mg base n "is_whole" 1 (call "is_whole")
  c_is_from_to : FnD P w K mg base n "is_from_to" 3 (call "is_from_to")
  c_stem_of : FnD P w K mg base n "stem_of" 1 (call "stem_of")
  c_is_word : FnD P w K mg base n "is_word" 1 (call "is_word")
  c_is_row : FnD P w K mg base n "is_row" 1 (call "is_row")
  c_is_bare : FnD P w K mg base n "is_bare" 1 (call "is_bare")
  c_are_pairs : FnD P w K mg base n "are_pairs" 1 (call "are_pairs")
  c_has_words : FnD P w K mg base n "has_words" 1 (call "has_words")
  c_is_node : FnD P w K mg base n "is_node" 1 (call "is_node")
  c_parts_of : FnD P w K mg base n "parts_of" 1 (call "parts_of")
  c_counted_parts : FnD P w K mg base n "counted_parts" 1 (call "counted_parts")
  c_is_tree : FnD P w K mg base n "is_tree" 1 (call "is_tree")
  c_words_in : FnD P w K mg base n "words_in" 1 (call "words_in")
  c_number_in : FnD P w K mg base n "number_in" 1 (call "number_in")
  c_read_some : FnD P w K mg base n "read_some" 2 (call "read_some")
  c_read_pairs : FnD P w K mg base n "read_pairs" 2 (call "read_pairs")
  c_read_inside : FnD P w K mg base n "read_inside" 3 (call "read_inside")
  c_read_one : FnD P w K mg base n "read_one" 2 (call "read_one")
  c_read_tree : FnD P w K mg base n "read_tree" 1 (call "read_tree")
  c__law_bag : FnD P w K mg base n "_law_bag" 1 (call "_law_bag")
  c__law_take : FnD P w K mg base n "_law_take" 2 (call "_law_take")
  c__law_words : FnD P w K mg base n "_law_words" 2 (call "_law_words")
  c__law_plain : FnD P w K mg base n "_law_plain" 3 (call "_law_plain")
  d__law_plain : FnDd P w K mg base n "_law_plain" 3 (call "_law_plain") [(.int 0)]
  c__law_node : FnD P w K mg base n "_law_node" 6 (call "_law_node")
  d__law_node : FnDd P w K mg base n "_law_node" 6 (call "_law_node") [(.int 0)]
  c__law_any : FnD P w K mg base n "_law_any" 4 (call "_law_any")
  c__law_parts : FnD P w K mg base n "_law_parts" 1 (call "_law_parts")
  c__law_shown : FnD P w K mg base n "_law_shown" 1 (call "_law_shown")
  c_law : FnD P w K mg base n "law" 1 (call "law")
  n_Reading : FnN P w K mg base n "Reading" 2 (call "Reading.__init__")
  i_Reading : FnI P w K mg base n "Reading" 2 (call "Reading")
  c_Reading__ahead : FnM P w K mg base n "Reading" "ahead" 1 (call "Reading.ahead")
  c_Reading__taken : FnM P w K mg base n "Reading" "taken" 1 (call "Reading.taken")
  c_Reading__need : FnM P w K mg base n "Reading" "need" 2 (call "Reading.need")
section
variable {P : Program} {w : World} {K : PySem.W.Frag} {mg : Str → Option Value} {base : Heap} {f : Addr} {fd : FuncData} {n : Nat} {call : Str → List M → CR}
theorem ok_shown_parts (F : Fun K "shown_parts" "shown_parts" s_shown_parts f fd) (G : Gs w K mg) (C : Cs P w K mg base n call) : FnG P w K mg base (n + 1) f fd ["tree"] (spD (kg0 K mg) 1 (g_shown_parts call)) :=
  have SC := sc_shown_parts
  fn_ok ["tree", "word", "pairs", "name", "part"] ["tree"] 1 5 (kpl [true]) (b_shown_parts call) (g_shown_parts call) rfl rfl rfl F SC fun cdv A outer s H E hr =>
  (dss_cons (ds_set (i := 1) SC.nd rfl (by first | exact .inl rfl | exact .inr rfl) rfl (dm_ix (de_n (pv 0)) de_int))
  (dss_cons (ds_if (dt_cmp (od_eq (Ev.hu192 hr)) (de_n (pv 1)) de_str (nomark _))
    (dss_one (ds_ret (dm_lst (da_cons (de_m (dm_ix (de_n (pv 0)) de_int)) (da_cons (de_m (dm_call C.c_show_tree hr (by rfl) (da_cons (de_m (dm_ix (de_n (pv 0)) de_int)) da_nil) (many_cons many_nil))) (da_cons (de_m (dm_call C.c_show_tree hr (by rfl) (da_cons (de_m (dm_ix (de_n (pv 0)) de_int)) da_nil) (many_cons many_nil))) da_nil))))))
    dss_nil)
  (dss_cons (ds_if (dt_cmp (od_eq (Ev.hu192 hr)) (de_n (pv 1)) de_str (nomark _))
    (dss_one (ds_ret (dm_bin od_add (de_m (dm_lst (da_cons (de_n (pv 1)) da_nil))) (de_m (dm_lc (own := [("part", 4)]) rfl SC.nd (di_any (di_seq (de_m (dm_ix (de_n (pv 0)) de_int)))) (blkOk_by (own := [("part", 4)]) (N := ["tree", "word", "pairs", "name", "part"]) (sc := defScope s_shown_parts) (by decide +kernel)) (fun _ _ _ _ _ => (dg_n rfl (pg_name (i := 4) SC.nd rfl (by first | exact .inl rfl | exact .inr rfl)))) (fun _ _ _ _ _ => dts_nil) (fun _ _ _ _ _ => (de_m (dm_call C.c_show_tree hr (by rfl) (da_cons (de_n (pv 4)) da_nil) (many_cons many_nil)))))))))
    dss_nil)
  (dss_cons (ds_if (dt_cmp (od_in (Ev.hu192 hr)) (de_n (pv 1)) (de_m (dm_tup (da_cons de_str (da_cons de_str da_nil)))) (by with_unfolding_all rfl))
    (dss_one (ds_ret (dm_lst (da_cons (de_n (pv 1)) (da_cons (de_m (dm_bty cd_str (by rfl) G.n_str (by decide +kernel) (da_cons (de_m (dm_ix (de_n (pv 0)) de_int)) da_nil))) (da_cons (de_m (dm_call C.c_show_tree hr (by rfl) (da_cons (de_m (dm_ix (de_n (pv 0)) de_int)) da_nil) (many_cons many_nil))) da_nil))))))
    dss_nil)
  (dss_cons (ds_if (dt_cmp (od_in (Ev.hu192 hr)) (de_n (pv 1)) (de_m (dm_tup (da_cons de_str (da_cons de_str da_nil)))) (by with_unfolding_all rfl))
    (dss_one (ds_ret (dm_bin od_add (de_m (dm_lst (da_cons (de_n (pv 1)) da_nil))) (de_m (dm_lc (own := [("part", 4)]) rfl SC.nd (di_any (di_seq (de_m (dm_sl (de_n (pv 0)) (dp_ix de_int) dp_no)))) (blkOk_by (own := [("part", 4)]) (N := ["tree", "word", "pairs", "name", "part"]) (sc := defScope s_shown_parts) (by decide +kernel)) (fun _ _ _ _ _ => (dg_n rfl (pg_name (i := 4) SC.nd rfl (by first | exact .inl rfl | exact .inr rfl)))) (fun _ _ _ _ _ => dts_nil) (fun _ _ _ _ _ => (de_m (dm_call C.c_show_tree hr (by rfl) (da_cons (de_n (pv 4)) da_nil) (many_cons many_nil)))))))))
    dss_nil)
  (dss_cons (ds_if (dt_cmp (od_eq (Ev.hu192 hr)) (de_n (pv 1)) de_str (nomark _))
    (dss_one (ds_ret (dm_lst (da_cons (de_n (pv 1)) (da_cons (de_m (dm_ix (de_n (pv 0)) de_int)) (da_cons (de_m (dm_call C.c_show_tree hr (by rfl) (da_cons (de_m (dm_ix (de_n (pv 0)) de_int)) da_nil) (many_cons many_nil))) (da_cons (de_m (dm_call C.c_show_tree hr (by rfl) (da_cons (de_m (dm_ix (de_n (pv 0)) de_int)) da_nil) (many_cons many_nil))) da_nil)))))))
    dss_nil)
  (dss_cons (ds_if (dt_cmp (od_eq (Ev.hu192 hr)) (de_n (pv 1)) de_str (nomark _))
    (dss_one (ds_ret (dm_lst (da_cons (de_n (pv 1)) (da_cons (de_m (dm_ix (de_n (pv 0)) de_int)) (da_cons (de_m (dm_call C.c_show_tree hr (by rfl) (da_cons (de_m (dm_ix (de_n (pv 0)) de_int)) da_nil) (many_cons many_nil))) (da_cons (de_m (dm_ix (de_n (pv 0)) de_int)) (da_cons (de_m (dm_call C.c_show_tree hr (by rfl) (da_cons (de_m (dm_ix (de_n (pv 0)) de_int)) da_nil) (many_cons many_nil))) (da_cons (de_m (dm_call C.c_show_tree hr (by rfl) (da_cons (de_m (dm_ix (de_n (pv 0)) de_int)) da_nil) (many_cons many_nil))) da_nil)))))))))
    dss_nil)
  (dss_cons (ds_if (dt_cmp (od_eq (Ev.hu192 hr)) (de_n (pv 1)) de_str (nomark _))
    (dss_one (ds_ret (dm_lst (da_cons (de_n (pv 1)) (da_cons (de_m (dm_ix (de_n (pv 0)) de_int)) da_nil)))))
    dss_nil)
  (dss_cons (ds_if (dt_cmp (od_eq (Ev.hu192 hr)) (de_n (pv 1)) de_str (nomark _))
    (dss_one (ds_ret (dm_lst (da_cons (de_n (pv 1)) (da_cons (de_m (dm_call C.c_show_tree hr (by rfl) (da_cons (de_m (dm_ix (de_n (pv 0)) de_int)) da_nil) (many_cons many_nil))) (da_cons (de_m (dm_ix (de_n (pv 0)) de_int)) (da_cons (de_m (dm_call C.c_show_tree hr (by rfl) (da_cons (de_m (dm_ix (de_n (pv 0)) de_int)) da_nil) (many_cons many_nil))) da_nil)))))))
    dss_nil)
  (dss_cons (ds_if (dt_cmp (od_eq (Ev.hu192 hr)) (de_n (pv 1)) de_str (nomark _))
    (dss_one (ds_ret (dm_bin od_add (de_m (dm_lst (da_cons (de_m (dm_ix (de_n (pv 0)) de_int)) da_nil))) (de_m (dm_lc (own := [("part", 4)]) rfl SC.nd (di_any (di_seq (de_m (dm_ix (de_n (pv 0)) de_int)))) (blkOk_by (own := [("part", 4)]) (N := ["tree", "word", "pairs", "name", "part"]) (sc := defScope s_shown_parts) (by decide +kernel)) (fun _ _ _ _ _ => (dg_n rfl (pg_name (i := 4) SC.nd rfl (by first | exact .inl rfl | exact .inr rfl)))) (fun _ _ _ _ _ => dts_nil) (fun _ _ _ _ _ => (de_m (dm_call C.c_show_tree hr (by rfl) (da_cons (de_n (pv 4)) da_nil) (many_cons many_nil)))))))))
    dss_nil)
  (dss_cons (ds_setLc (i := 2) (own := [("name", 3), ("part", 4)]) rfl SC.nd rfl rfl rfl (sw_true rfl rfl rfl (by decide +kernel)) (di_any (di_seq (de_m (dm_ix (de_n (pv 0)) de_int)))) (blkOk_by (own := [("name", 3), ("part", 4)]) (N := ["tree", "word", "pairs", "name", "part"]) (sc := defScope s_shown_parts) (by decide +kernel)) (fun _ _ _ _ _ => (dg_t rfl (dgs_cons (dg_n rfl (pg_name (i := 3) SC.nd rfl (by first | exact .inl rfl | exact .inr rfl))) (dgs_cons (dg_n rfl (pg_name (i := 4) SC.nd rfl (by first | exact .inl rfl | exact .inr rfl))) dgs_nil)))) (fun _ _ _ _ _ => dts_nil) (fun _ _ _ _ _ => (de_m (dm_js (.cons (dm_e de_str) (.cons (dm_fmt (de_n (pv 3))) (.cons (dm_e de_str) (.cons (dm_fmt (de_m (dm_call C.c_show_tree hr (by rfl) (da_cons (de_n (pv 4)) da_nil) (many_cons many_nil)))) (.cons (dm_e de_str) .nil)))))))))
  (dss_one (ds_ret (dm_lst (da_cons (de_n (pv 1)) (da_cons (de_m (dm_ix (de_n (pv 0)) de_int)) (da_cons (de_m (dm_bin od_add (de_m (dm_bin od_add de_str (de_m (dm_join de_str (de_n (pv 2)))))) de_str)) (da_cons (de_m (dm_call C.c_show_tree hr (by rfl) (da_cons (de_m (dm_ix (de_n (pv 0)) de_int)) da_nil) (many_cons many_nil))) da_nil))))))))))))))))))
theorem ok_show_tree (F : Fun K "show_tree" "show_tree" s_show_tree f fd) (G : Gs w K mg) (C : Cs P w K mg base n call) : FnG P w K mg base (n + 1) f fd ["tree"] (spD (kg0 K mg) 1 (g_show_tree call)) :=
  have SC := sc_show_tree
  fn_ok ["tree"] ["tree"] 1 1 (kpl [true]) (b_show_tree call) (g_show_tree call) rfl rfl rfl F SC fun cdv A outer s H E hr =>
  (dss_cons (ds_if (dt_cmp (od_eq (Ev.hu192 hr)) (de_m (dm_ix (de_n (pv 0)) de_int)) de_str (nomark _))
    (dss_one (ds_ret (dm_if (dt_val (dm_ix (de_n (pv 0)) de_int)) (dm_e de_str) (dm_e de_str))))
    dss_nil)
  (dss_cons (ds_if (dt_cmp (od_in (Ev.hu192 hr)) (de_m (dm_ix (de_n (pv 0)) de_int)) (de_m (dm_tup (da_cons de_str (da_cons de_str da_nil)))) (by with_unfolding_all rfl))
    (dss_one (ds_ret (dm_bty cd_str (by rfl) G.n_str (by decide +kernel) (da_cons (de_m (dm_ix (de_n (pv 0)) de_int)) da_nil))))
    dss_nil)
  (dss_one (ds_ret (dm_bin od_add (de_m (dm_bin od_add de_str (de_m (dm_join de_str (de_m (dm_call C.c_shown_parts hr (by rfl) (da_cons (de_n (pv 0)) da_nil) (many_cons many_nil))))))) de_str)))))
theorem ok_is_whole (F : Fun K "is_whole" "is_whole" s_is_whole f fd) (G : Gs w K mg) (C : Cs P w K mg base n call) : FnG P w K mg base (n + 1) f fd ["thing"] (spD (kg0 K mg) 1 (g_is_whole call)) :=
  have SC := sc_is_whole
  fn_ok ["thing"] ["thing"] 1 1 (kpl [true]) (b_is_whole call) (g_is_whole call) rfl rfl rfl F SC fun cdv A outer s H E hr =>
  (dss_one (ds_ret (dm_and (dm_blt cd_isi (by rfl) G.n_isinstance (by decide +kernel) (da_cons (de_n (pv 0)) (da_cons (de_c (pe_bltn (by rfl) G.n_int (by decide +kernel) (show RelV (.ty "int") _ from rfl)) fun _ => .ty _) da_nil))) (dm_one (dm_not (dm_blt cd_isi (by rfl) G.n_isinstance (by decide +kernel) (da_cons (de_n (pv 0)) (da_cons (de_c (pe_bltn (by rfl) G.n_bool (by decide +kernel) (show RelV (.ty "bool") _ from rfl)) fun _ => .ty _) da_nil))))))))
theorem ok_is_from_to (F : Fun K "is_from_to" "is_from_to" s_is_from_to f fd) (G : Gs w K mg) (C : Cs P w K mg base n call) : FnG P w K mg base (n + 1) f fd ["thing", "least", "most"] (spD (kg0 K mg) 3 (g_is_from_to call)) :=
  have SC := sc_is_from_to
  fn_ok ["thing", "least", "most"] ["thing", "least", "most"] 3 3 (kpl [true, true, true]) (b_is_from_to call) (g_is_from_to call) rfl rfl rfl F SC fun cdv A outer s H E hr =>
  (dss_one (ds_ret (dm_and (dm_call C.c_is_whole hr (by rfl) (da_cons (de_n (pv 0)) da_nil) (many_cons many_nil)) (dm_one (dm_chain od_le od_le (de_n (pv 1)) (de_n (pv 0)) (de_n (pv 2)))))))
theorem ok_stem_of (F : Fun K "stem_of" "stem_of" s_stem_of f fd) (G : Gs w K mg) (C : Cs P w K mg base n call) : FnG P w K mg base (n + 1) f fd ["word"] (spD (kg0 K mg) 1 (g_stem_of call)) :=
  have SC := sc_stem_of
  fn_ok ["word"] ["word"] 1 1 (kpl [true]) (b_stem_of call) (g_stem_of call) rfl rfl rfl F SC fun cdv A outer s H E hr =>
  (dss_one (ds_ret (dm_rstrip (de_n (pv 0)) (de_g (by rfl) G.g_FIGURES))))
theorem ok_is_word (F : Fun K "is_word" "is_word" s_is_word f fd) (G : Gs w K mg) (C : Cs P w K mg base n call) : FnG P w K mg base (n + 1) f fd ["thing"] (spD (kg0 K mg) 1 (g_is_word call)) :=
  have SC := sc_is_word
  fn_ok ["thing", "stem", "number", "sign"] ["thing"] 1 4 (kpl [true]) (b_is_word call) (g_is_word call) rfl rfl rfl F SC fun cdv A outer s H E hr =>
  (dss_cons (ds_if (dt_w (dw_or (dt_not (dt_val (dm_blt cd_isi (by rfl) G.n_isinstance (by decide +kernel) (da_cons (de_n (pv 0)) (da_cons (de_c (pe_bltn (by rfl) G.n_str (by decide +kernel) (show RelV (.ty "str") _ from rfl)) fun _ => .ty _) da_nil))))) (dw_or1 (dt_cmp (od_in (Ev.hu192 hr)) (de_n (pv 0)) (de_g (by rfl) G.g_KEPT) (by with_unfolding_all rfl)))))
    (dss_one (ds_ret (dm_e de_bl)))
    dss_nil)
  (dss_cons (ds_set (i := 1) SC.nd rfl (by first | exact .inl rfl | exact .inr rfl) rfl (dm_call C.c_stem_of hr (by rfl) (da_cons (de_n (pv 0)) da_nil) (many_cons many_nil)))
  (dss_cons (ds_if (dt_w (dw_or (dt_not (dt_chain od_le od_le de_int (de_m (dm_blt cd_len (by rfl) G.n_len (by decide +kernel) (da_cons (de_n (pv 1)) da_nil))) (de_g (by rfl) G.g_MOST_LETTERS))) (dw_or1 (dt_not (dt_val (dm_blt (cd_all rfl) (by rfl) G.n_all (by decide +kernel) (da_cons (de_m (dm_lc (own := [("sign", 3)]) rfl SC.nd (di_any (di_seq (de_n (pv 1)))) (blkOk_by (own := [("sign", 3)]) (N := ["thing", "stem", "number", "sign"]) (sc := defScope s_is_word) (by decide +kernel)) (fun _ _ _ _ _ => (dg_n rfl (pg_name (i := 3) SC.nd rfl (by first | exact .inl rfl | exact .inr rfl)))) (fun _ _ _ _ _ => dts_nil) (fun _ _ _ _ _ => (de_m (dm_cmp (od_in (Ev.hu192 hr)) (de_n (pv 3)) (de_g (by rfl) G.g_LETTERS) (by with_unfolding_all rfl)))))) da_nil)))))))
    (dss_one (ds_ret (dm_e de_bl)))
    dss_nil)
  (dss_cons (ds_set (i := 2) SC.nd rfl (by first | exact .inl rfl | exact .inr rfl) rfl (dm_sl (de_n (pv 0)) (dp_ix (de_m (dm_blt cd_len (by rfl) G.n_len (by decide +kernel) (da_cons (de_n (pv 1)) da_nil)))) dp_no))
  (dss_one (ds_ret (dm_or (dm_cmp (od_eq (Ev.hu192 hr)) (de_n (pv 2)) de_str (nomark _)) (dm_one (dm_and (dm_cmp od_le (de_m (dm_blt cd_len (by rfl) G.n_len (by decide +kernel) (da_cons (de_n (pv 2)) da_nil))) (de_g (by rfl) G.g_MOST_FIGURES_words) (nomark _)) (dm_one (dm_cmp (od_ne (Ev.hu192 hr)) (de_m (dm_ix (de_n (pv 2)) de_int)) de_str (nomark _))))))))))))
theorem ok_is_row (F : Fun K "is_row" "is_row" s_is_row f fd) (G : Gs w K mg) (C : Cs P w K mg base n call) : FnG P w K mg base (n + 1) f fd ["thing"] (spD (kg0 K mg) 1 (g_is_row call)) :=
  have SC := sc_is_row
  fn_ok ["thing"] ["thing"] 1 1 (kpl [true]) (b_is_row call) (g_is_row call) rfl rfl rfl F SC fun cdv A outer s H E hr =>
  (dss_one (ds_ret (dm_and (dm_blt cd_isi (by rfl) G.n_isinstance (by decide +kernel) (da_cons (de_n (pv 0)) (da_cons (de_c (pe_bltn (by rfl) G.n_tuple (by decide +kernel) (show RelV (.ty "tuple") _ from rfl)) fun _ => .ty _) da_nil))) (dm_one (dm_cmp od_le (de_m (dm_blt cd_len (by rfl) G.n_len (by decide +kernel) (da_cons (de_n (pv 0)) da_nil))) (de_g (by rfl) G.g_MOST_ARGS) (nomark _))))))
theorem ok_is_bare (F : Fun K "is_bare" "is_bare" s_is_bare f fd) (G : Gs w K mg) (C : Cs P w K mg base n call) : FnG P w K mg base (n + 1) f fd ["thing"] (spD (kg0 K mg) 1 (g_is_bare call)) :=
  have SC := sc_is_bare
  fn_ok ["thing"] ["thing"] 1 1 (kpl [true]) (b_is_bare call) (g_is_bare call) rfl rfl rfl F SC fun cdv A outer s H E hr =>
  (dss_one (ds_ret (dm_and (dm_blt cd_isi (by rfl) G.n_isinstance (by decide +kernel) (da_cons (de_n (pv 0)) (da_cons (de_c (pe_bltn (by rfl) G.n_tuple (by decide +kernel) (show RelV (.ty "tuple") _ from rfl)) fun _ => .ty _) da_nil))) (dm_and (dm_cmp (od_ne (Ev.hu192 hr)) (de_n (pv 0)) (de_m (dm_tup da_nil)) (nomark _)) (dm_and (dm_blt cd_isi (by rfl) G.n_isinstance (by decide +kernel) (da_cons (de_m (dm_ix (de_n (pv 0)) de_int)) (da_cons (de_c (pe_bltn (by rfl) G.n_str (by decide +kernel) (show RelV (.ty "str") _ from rfl)) fun _ => .ty _) da_nil))) (dm_one (dm_cmp (od_in (Ev.hu192 hr)) (de_m (dm_ix (de_n (pv 0)) de_int)) (de_g (by rfl) G.g_PLAIN) (by with_unfolding_all rfl))))))))
theorem ok_are_pairs (F : Fun K "are_pairs" "are_pairs" s_are_pairs f fd) (G : Gs w K mg) (C : Cs P w K mg base n call) : FnG P w K mg base (n + 1) f fd ["thing"] (spD (kg0 K mg) 1 (g_are_pairs call)) :=
  have SC := sc_are_pairs
  fn_ok ["thing", "pair", "words", "word", "tree"] ["thing"] 1 5 (kpl [true]) (b_are_pairs call) (g_are_pairs call) rfl rfl rfl F SC fun cdv A outer s H E hr =>
  (dss_cons (ds_if (dt_not (dt_val (dm_call C.c_is_row hr (by rfl) (da_cons (de_n (pv 0)) da_nil) (many_cons many_nil))))
    (dss_one (ds_ret (dm_e de_bl)))
    dss_nil)
  (dss_cons (ds_for PassesOwn.never rfl (di_any (di_seq (de_n (pv 0)))) (dg_n rfl (pg_name (i := 1) SC.nd rfl (by first | exact .inl rfl | exact .inr rfl)))
    (dss_one (ds_if (dt_w (dw_or (dt_not (dt_val (dm_blt cd_isi (by rfl) G.n_isinstance (by decide +kernel) (da_cons (de_n (pv 1)) (da_cons (de_c (pe_bltn (by rfl) G.n_tuple (by decide +kernel) (show RelV (.ty "tuple") _ from rfl)) fun _ => .ty _) da_nil))))) (dw_or (dt_cmp (od_ne (Ev.hu192 hr)) (de_m (dm_blt cd_len (by rfl) G.n_len (by decide +kernel) (da_cons (de_n (pv 1)) da_nil))) de_int (nomark _)) (dw_or1 (dt_not (dt_val (dm_call C.c_is_word hr (by rfl) (da_cons (de_m (dm_ix (de_n (pv 1)) de_int)) da_nil) (many_cons many_nil))))))))
    (dss_one (ds_ret (dm_e de_bl)))
    dss_nil)))
  (dss_cons (ds_setLc (i := 2) (own := [("word", 3), ("tree", 4)]) rfl SC.nd rfl rfl rfl (sw_true rfl rfl rfl (by decide +kernel)) (di_any (di_seq (de_n (pv 0)))) (blkOk_by (own := [("word", 3), ("tree", 4)]) (N := ["thing", "pair", "words", "word", "tree"]) (sc := defScope s_are_pairs) (by decide +kernel)) (fun _ _ _ _ _ => (dg_t rfl (dgs_cons (dg_n rfl (pg_name (i := 3) SC.nd rfl (by first | exact .inl rfl | exact .inr rfl))) (dgs_cons (dg_n rfl (pg_name (i := 4) SC.nd rfl (by first | exact .inl rfl | exact .inr rfl))) dgs_nil)))) (fun _ _ _ _ _ => (dts_one (dt_not (dt_val (dm_call C.c_is_bare hr (by rfl) (da_cons (de_n (pv 4)) da_nil) (many_cons many_nil)))))) (fun _ _ _ _ _ => (de_n (pv 3))))
  (dss_one (ds_ret (dm_cmp (od_eq (Ev.hu192 hr)) (de_m (dm_lenSet (by rfl) (by rfl) G.n_len (by rfl) G.n_set (de_n (pv 2)))) (de_m (dm_blt cd_len (by rfl) G.n_len (by decide +kernel) (da_cons (de_n (pv 2)) da_nil))) (nomark _)))))))
theorem ok_has_words (F : Fun K "has_words" "has_words" s_has_words f fd) (G : Gs w K mg) (C : Cs P w K mg base n call) : FnG P w K mg base (n + 1) f fd ["thing"] (spD (kg0 K mg) 1 (g_has_words call)) :=
  have SC := sc_has_words
  fn_ok ["thing"] ["thing"] 1 1 (kpl [true]) (b_has_words call) (g_has_words call) rfl rfl rfl F SC fun cdv A outer s H E hr =>
  (dss_cons (ds_if (dt_cmp (od_eq (Ev.hu192 hr)) (de_m (dm_ix (de_n (pv 0)) de_int)) de_str (nomark _))
    (dss_one (ds_ret (dm_and (dm_call C.c_is_word hr (by rfl) (da_cons (de_m (dm_ix (de_n (pv 0)) de_int)) da_nil) (many_cons many_nil)) (dm_and (dm_call C.c_is_word hr (by rfl) (da_cons (de_m (dm_ix (de_n (pv 0)) de_int)) da_nil) (many_cons many_nil)) (dm_one (dm_cmp (od_ne (Ev.hu192 hr)) (de_m (dm_ix (de_n (pv 0)) de_int)) (de_m (dm_ix (de_n (pv 0)) de_int)) (nomark _)))))))
    dss_nil)
  (dss_cons (ds_if (dt_cmp (od_eq (Ev.hu192 hr)) (de_m (dm_ix (de_n (pv 0)) de_int)) de_str (nomark _))
    (dss_one (ds_ret (dm_call C.c_is_word hr (by rfl) (da_cons (de_m (dm_ix (de_n (pv 0)) de_int)) da_nil) (many_cons many_nil))))
    dss_nil)
  (dss_one (ds_ret (dm_call C.c_is_word hr (by rfl) (da_cons (de_m (dm_ix (de_n (pv 0)) de_int)) da_nil) (many_cons many_nil))))))
theorem ok_is_node (F : Fun K "is_node" "is_node" s_is_node f fd) (G : Gs w K mg) (C : Cs P w K mg base n call) : FnG P w K mg base (n + 1) f fd ["thing"] (spD (kg0 K mg) 1 (g_is_node call)) :=
  have SC := sc_is_node
  fn_ok ["thing"] ["thing"] 1 1 (kpl [true]) (b_is_node call) (g_is_node call) rfl rfl rfl F SC fun cdv A outer s H E hr =>
  (dss_cons (ds_if (dt_w (dw_or (dt_not (dt_val (dm_blt cd_isi (by rfl) G.n_isinstance (by decide +kernel) (da_cons (de_n (pv 0)) (da_cons (de_c (pe_bltn (by rfl) G.n_tuple (by decide +kernel) (show RelV (.ty "tuple") _ from rfl)) fun _ => .ty _) da_nil))))) (dw_or (dt_cmp (od_eq (Ev.hu192 hr)) (de_n (pv 0)) (de_m (dm_tup da_nil)) (nomark _)) (dw_or1 (dt_not (dt_val (dm_blt cd_isi (by rfl) G.n_isinstance (by decide +kernel) (da_cons (de_m (dm_ix (de_n (pv 0)) de_int)) (da_cons (de_c (pe_bltn (by rfl) G.n_str (by decide +kernel) (show RelV (.ty "str") _ from rfl)) fun _ => .ty _) da_nil)))))))))
    (dss_one (ds_ret (dm_e de_bl)))
    dss_nil)
  (dss_cons (ds_if (dt_w (dw_or (dt_ninT (by rfl) G.g_SHAPES (de_m (dm_ix (de_n (pv 0)) de_int))) (dw_or1 (dt_cmp (od_ne (Ev.hu192 hr)) (de_m (dm_blt cd_len (by rfl) G.n_len (by decide +kernel) (da_cons (de_n (pv 0)) da_nil))) (de_m (dm_ixT (by rfl) G.g_SHAPES (de_m (dm_ix (de_n (pv 0)) de_int)))) (nomark _)))))
    (dss_one (ds_ret (dm_e de_bl)))
    dss_nil)
  (dss_cons (ds_if (dt_cmp (od_in (Ev.hu192 hr)) (de_m (dm_ix (de_n (pv 0)) de_int)) (de_m (dm_tup (da_cons de_str (da_cons de_str da_nil)))) (by with_unfolding_all rfl))
    (dss_one (ds_ret (dm_call C.c_is_from_to hr (by rfl) (da_cons (de_m (dm_ix (de_n (pv 0)) de_int)) (da_cons de_int (da_cons (de_g (by rfl) G.g_MOST_NUMBER) da_nil))) (many_cons (many_cons (many_cons many_nil))))))
    dss_nil)
  (dss_cons (ds_if (dt_cmp (od_eq (Ev.hu192 hr)) (de_m (dm_ix (de_n (pv 0)) de_int)) de_str (nomark _))
    (dss_one (ds_ret (dm_blt cd_isi (by rfl) G.n_isinstance (by decide +kernel) (da_cons (de_m (dm_ix (de_n (pv 0)) de_int)) (da_cons (de_c (pe_bltn (by rfl) G.n_bool (by decide +kernel) (show RelV (.ty "bool") _ from rfl)) fun _ => .ty _) da_nil)))))
    dss_nil)
  (dss_cons (ds_if (dt_cmp (od_eq (Ev.hu192 hr)) (de_m (dm_ix (de_n (pv 0)) de_int)) de_str (nomark _))
    (dss_one (ds_ret (dm_and (dm_blt cd_isi (by rfl) G.n_isinstance (by decide +kernel) (da_cons (de_m (dm_ix (de_n (pv 0)) de_int)) (da_cons (de_c (pe_bltn (by rfl) G.n_str (by decide +kernel) (show RelV (.ty "str") _ from rfl)) fun _ => .ty _) da_nil))) (dm_one (dm_cmp (od_in (Ev.hu192 hr)) (de_m (dm_ix (de_n (pv 0)) de_int)) (de_g (by rfl) G.g_SIGNS) (by with_unfolding_all rfl))))))
    dss_nil)
  (dss_cons (ds_if (dt_cmp (od_eq (Ev.hu192 hr)) (de_m (dm_ix (de_n (pv 0)) de_int)) de_str (nomark _))
    (dss_one (ds_ret (dm_call C.c_is_from_to hr (by rfl) (da_cons (de_m (dm_ix (de_n (pv 0)) de_int)) (da_cons de_int (da_cons (de_g (by rfl) G.g_MOST_ARGS) da_nil))) (many_cons (many_cons (many_cons many_nil))))))
    dss_nil)
  (dss_cons (ds_if (dt_cmp (od_eq (Ev.hu192 hr)) (de_m (dm_ix (de_n (pv 0)) de_int)) de_str (nomark _))
    (dss_one (ds_ret (dm_call C.c_is_row hr (by rfl) (da_cons (de_m (dm_ix (de_n (pv 0)) de_int)) da_nil) (many_cons many_nil))))
    dss_nil)
  (dss_cons (ds_if (dt_cmp (od_in (Ev.hu192 hr)) (de_m (dm_ix (de_n (pv 0)) de_int)) (de_m (dm_tup (da_cons de_str (da_cons de_str da_nil)))) (by with_unfolding_all rfl))
    (dss_one (ds_ret (dm_e de_bl)))
    dss_nil)
  (dss_cons (ds_if (dt_cmp (od_eq (Ev.hu192 hr)) (de_m (dm_ix (de_n (pv 0)) de_int)) de_str (nomark _))
    (dss_one (ds_ret (dm_and (dm_call C.c_has_words hr (by rfl) (da_cons (de_n (pv 0)) da_nil) (many_cons many_nil)) (dm_one (dm_call C.c_is_row hr (by rfl) (da_cons (de_m (dm_ix (de_n (pv 0)) de_int)) da_nil) (many_cons many_nil))))))
    dss_nil)
  (dss_cons (ds_if (dt_cmp (od_eq (Ev.hu192 hr)) (de_m (dm_ix (de_n (pv 0)) de_int)) de_str (nomark _))
    (dss_one (ds_ret (dm_and (dm_call C.c_has_words hr (by rfl) (da_cons (de_n (pv 0)) da_nil) (many_cons many_nil)) (dm_one (dm_call C.c_are_pairs hr (by rfl) (da_cons (de_m (dm_ix (de_n (pv 0)) de_int)) da_nil) (many_cons many_nil))))))
    dss_nil)
  (dss_one (ds_ret (dm_call C.c_has_words hr (by rfl) (da_cons (de_n (pv 0)) da_nil) (many_cons many_nil))))))))))))))
theorem ok_parts_of (F : Fun K "parts_of" "parts_of" s_parts_of f fd) (G : Gs w K mg) (C : Cs P w K mg base n call) : FnG P w K mg base (n + 1) f fd ["tree"] (spD (kg0 K mg) 1 (g_parts_of call)) :=
  have SC := sc_parts_of
  fn_ok ["tree", "word", "part"] ["tree"] 1 3 (kpl [true]) (b_parts_of call) (g_parts_of call) rfl rfl rfl F SC fun cdv A outer s H E hr =>
  (dss_cons (ds_if (dt_cmp (od_in (Ev.hu192 hr)) (de_m (dm_ix (de_n (pv 0)) de_int)) (de_m (dm_tup (da_cons de_str (da_cons de_str (da_cons de_str (da_cons de_str da_nil)))))) (by with_unfolding_all rfl))
    (dss_one (ds_ret (dm_lst da_nil)))
    dss_nil)
  (dss_cons (ds_if (dt_cmp (od_in (Ev.hu192 hr)) (de_m (dm_ix (de_n (pv 0)) de_int)) (de_m (dm_tup (da_cons de_str (da_cons de_str (da_cons de_str (da_cons de_str da_nil)))))) (by with_unfolding_all rfl))
    (dss_one (ds_ret (dm_bty cd_list (by rfl) G.n_list (by decide +kernel) (da_cons (de_m (dm_sl (de_n (pv 0)) (dp_ix de_int) dp_no)) da_nil))))
    dss_nil)
  (dss_cons (ds_if (dt_cmp (od_in (Ev.hu192 hr)) (de_m (dm_ix (de_n (pv 0)) de_int)) (de_m (dm_tup (da_cons de_str (da_cons de_str da_nil)))) (by with_unfolding_all rfl))
    (dss_one (ds_ret (dm_bty cd_list (by rfl) G.n_list (by decide +kernel) (da_cons (de_m (dm_sl (de_n (pv 0)) (dp_ix de_int) dp_no)) da_nil))))
    dss_nil)
  (dss_cons (ds_if (dt_cmp (od_eq (Ev.hu192 hr)) (de_m (dm_ix (de_n (pv 0)) de_int)) de_str (nomark _))
    (dss_one (ds_ret (dm_bty cd_list (by rfl) G.n_list (by decide +kernel) (da_cons (de_m (dm_ix (de_n (pv 0)) de_int)) da_nil))))
    dss_nil)
  (dss_cons (ds_if (dt_cmp (od_eq (Ev.hu192 hr)) (de_m (dm_ix (de_n (pv 0)) de_int)) de_str (nomark _))
    (dss_one (ds_ret (dm_lst (da_cons (de_m (dm_ix (de_n (pv 0)) de_int)) (da_cons (de_m (dm_ix (de_n (pv 0)) de_int)) (da_cons (de_m (dm_ix (de_n (pv 0)) de_int)) da_nil))))))
    dss_nil)
  (dss_cons (ds_if (dt_cmp (od_eq (Ev.hu192 hr)) (de_m (dm_ix (de_n (pv 0)) de_int)) de_str (nomark _))
    (dss_one (ds_ret (dm_lst (da_cons (de_m (dm_ix (de_n (pv 0)) de_int)) (da_cons (de_m (dm_ix (de_n (pv 0)) de_int)) da_nil)))))
    dss_nil)
  (dss_cons (ds_if (dt_cmp (od_eq (Ev.hu192 hr)) (de_m (dm_ix (de_n (pv 0)) de_int)) de_str (nomark _))
    (dss_one (ds_ret (dm_bty cd_list (by rfl) G.n_list (by decide +kernel) (da_cons (de_m (dm_ix (de_n (pv 0)) de_int)) da_nil))))
    dss_nil)
  (dss_one (ds_ret (dm_bin od_add (de_m (dm_lc (own := [("word", 1), ("part", 2)]) rfl SC.nd (di_any (di_seq (de_m (dm_ix (de_n (pv 0)) de_int)))) (blkOk_by (own := [("word", 1), ("part", 2)]) (N := ["tree", "word", "part"]) (sc := defScope s_parts_of) (by decide +kernel)) (fun _ _ _ _ _ => (dg_t rfl (dgs_cons (dg_n rfl (pg_name (i := 1) SC.nd rfl (by first | exact .inl rfl | exact .inr rfl))) (dgs_cons (dg_n rfl (pg_name (i := 2) SC.nd rfl (by first | exact .inl rfl | exact .inr rfl))) dgs_nil)))) (fun _ _ _ _ _ => dts_nil) (fun _ _ _ _ _ => (de_n (pv 2))))) (de_m (dm_lst (da_cons (de_m (dm_ix (de_n (pv 0)) de_int)) da_nil)))))))))))))
theorem ok_counted_parts (F : Fun K "counted_parts" "counted_parts" s_counted_parts f fd) (G : Gs w K mg) (C : Cs P w K mg base n call) : FnG P w K mg base (n + 1) f fd ["tree"] (spD (kg0 K mg) 1 (g_counted_parts call)) :=
  have SC := sc_counted_parts
  fn_ok ["tree", "word", "part"] ["tree"] 1 3 (kpl [true]) (b_counted_parts call) (g_counted_parts call) rfl rfl rfl F SC fun cdv A outer s H E hr =>
  (dss_cons (ds_if (dt_cmp (od_ne (Ev.hu192 hr)) (de_m (dm_ix (de_n (pv 0)) de_int)) de_str (nomark _))
    (dss_one (ds_ret (dm_call C.c_parts_of hr (by rfl) (da_cons (de_n (pv 0)) da_nil) (many_cons many_nil))))
    dss_nil)
  (dss_one (ds_ret (dm_bin od_add (de_m (dm_lc (own := [("word", 1), ("part", 2)]) rfl SC.nd (di_any (di_seq (de_m (dm_ix (de_n (pv 0)) de_int)))) (blkOk_by (own := [("word", 1), ("part", 2)]) (N := ["tree", "word", "part"]) (sc := defScope s_counted_parts) (by decide +kernel)) (fun _ _ _ _ _ => (dg_t rfl (dgs_cons (dg_n rfl (pg_name (i := 1) SC.nd rfl (by first | exact .inl rfl | exact .inr rfl))) (dgs_cons (dg_n rfl (pg_name (i := 2) SC.nd rfl (by first | exact .inl rfl | exact .inr rfl))) dgs_nil)))) (fun _ _ _ _ _ => (dts_one (dt_not (dt_val (dm_call C.c_is_bare hr (by rfl) (da_cons (de_n (pv 2)) da_nil) (many_cons many_nil)))))) (fun _ _ _ _ _ => (de_n (pv 2))))) (de_m (dm_lst (da_cons (de_m (dm_ix (de_n (pv 0)) de_int)) da_nil)))))))
theorem ok_is_tree (F : Fun K "is_tree" "is_tree" s_is_tree f fd) (G : Gs w K mg) (C : Cs P w K mg base n call) : FnG P w K mg base (n + 1) f fd ["thing"] (spD (kg0 K mg) 1 (g_is_tree call)) :=
  have SC := sc_is_tree
  fn_ok ["thing", "waiting", "many", "part", "one", "depth"] ["thing"] 1 6 (kpl [true]) (b_is_tree call) (g_is_tree call) rfl rfl rfl F SC fun cdv A outer s H E hr =>
  (dss_cons (ds_set (i := 1) SC.nd rfl (by first | exact .inl rfl | exact .inr rfl) rfl (dm_lst (da_cons (de_m (dm_tup (da_cons (de_n (pv 0)) (da_cons de_int da_nil)))) da_nil)))
  (dss_cons (ds_set (i := 2) SC.nd rfl (by first | exact .inl rfl | exact .inr rfl) rfl (dm_e de_int))
  (dss_cons (ds_while PassesOwn.never (dt_cmp (od_ne (Ev.hu192 hr)) (de_n (pv 1)) (de_m (dm_lst da_nil)) (nomark _))
    (dss_cons (ds_asg (de_m (dm_pop (pv 1))) (dg_t rfl (dgs_cons (dg_n rfl (pg_name (i := 4) SC.nd rfl (by first | exact .inl rfl | exact .inr rfl))) (dgs_cons (dg_n rfl (pg_name (i := 5) SC.nd rfl (by first | exact .inl rfl | exact .inr rfl))) dgs_nil))))
  (dss_cons (ds_if (dt_w (dw_or (dt_cmp od_gt (de_n (pv 5)) (de_g (by rfl) G.g_MOST_DEPTH) (nomark _)) (dw_or1 (dt_not (dt_val (dm_call C.c_is_node hr (by rfl) (da_cons (de_n (pv 4)) da_nil) (many_cons many_nil)))))))
    (dss_one (ds_ret (dm_e de_bl)))
    dss_nil)
  (dss_cons (ds_aug (i := 2) SC.nd rfl (by first | exact .inl rfl | exact .inr rfl) rfl de_int oi_add)
  (dss_cons (ds_for PassesOwn.never rfl (di_any (di_seq (de_m (dm_call C.c_parts_of hr (by rfl) (da_cons (de_n (pv 4)) da_nil) (many_cons many_nil))))) (dg_n rfl (pg_name (i := 3) SC.nd rfl (by first | exact .inl rfl | exact .inr rfl)))
    (dss_one (ds_expr (dm_app (pv 1) (de_m (dm_tup (da_cons (de_n (pv 3)) (da_cons (de_m (dm_bin od_add (de_n (pv 5)) de_int)) da_nil))))))))
  (dss_cons (ds_if (dt_cmp (od_eq (Ev.hu192 hr)) (de_m (dm_ix (de_n (pv 4)) de_int)) de_str (nomark _))
    (dss_one (ds_set (i := 2) SC.nd rfl (by first | exact .inl rfl | exact .inr rfl) rfl (dm_bin od_add (de_m (dm_bin od_sub (de_n (pv 2)) (de_m (dm_blt cd_len (by rfl) G.n_len (by decide +kernel) (da_cons (de_m (dm_call C.c_parts_of hr (by rfl) (da_cons (de_n (pv 4)) da_nil) (many_cons many_nil))) da_nil))))) (de_m (dm_blt cd_len (by rfl) G.n_len (by decide +kernel) (da_cons (de_m (dm_call C.c_counted_parts hr (by rfl) (da_cons (de_n (pv 4)) da_nil) (many_cons many_nil))) da_nil))))))
    dss_nil)
  (dss_one (ds_if (dt_cmp od_gt (de_n (pv 2)) (de_g (by rfl) G.g_MOST_NODES) (nomark _))
    (dss_one (ds_ret (dm_e de_bl)))
    dss_nil))))))))
  (dss_one (ds_ret (dm_e de_bl))))))
theorem ok_words_in (F : Fun K "words_in" "words_in" s_words_in f fd) (G : Gs w K mg) (C : Cs P w K mg base n call) : FnG P w K mg base (n + 1) f fd ["text"] (spD (kg0 K mg) 1 (g_words_in call)) :=
  have SC := sc_words_in
  fn_okT ["text"] ["text"] 1 1 (kpl [true]) (b_words_in call) (g_words_in call) rfl rfl rfl F SC (by decide +kernel) (by decide) fun cdv A outer s H E =>
  (dssT_ret (dmt_words (dmt_repl (dmt_repl (DMT.of (dm_e (de_n (pv 0)))) (by decide +kernel)) (by decide +kernel))))
theorem ok_number_in (F : Fun K "number_in" "number_in" s_number_in f fd) (G : Gs w K mg) (C : Cs P w K mg base n call) : FnG P w K mg base (n + 1) f fd ["word"] (spD (kg0 K mg) 1 (g_number_in call)) :=
  have SC := sc_number_in
  fn_ok ["word", "sign"] ["word"] 1 2 (kpl [true]) (b_number_in call) (g_number_in call) rfl rfl rfl F SC fun cdv A outer s H E hr =>
  (dss_cons (ds_if (dt_w (dw_or (dt_cmp (od_eq (Ev.hu192 hr)) (de_n (pv 0)) de_str (nomark _)) (dw_or (dt_cmp od_gt (de_m (dm_blt cd_len (by rfl) G.n_len (by decide +kernel) (da_cons (de_n (pv 0)) da_nil))) (de_g (by rfl) G.g_MOST_FIGURES_reader) (nomark _)) (dw_or1 (dt_not (dt_val (dm_blt (cd_all rfl) (by rfl) G.n_all (by decide +kernel) (da_cons (de_m (dm_lc (own := [("sign", 1)]) rfl SC.nd (di_any (di_seq (de_n (pv 0)))) (blkOk_by (own := [("sign", 1)]) (N := ["word", "sign"]) (sc := defScope s_number_in) (by decide +kernel)) (fun _ _ _ _ _ => (dg_n rfl (pg_name (i := 1) SC.nd rfl (by first | exact .inl rfl | exact .inr rfl)))) (fun _ _ _ _ _ => dts_nil) (fun _ _ _ _ _ => (de_m (dm_cmp (od_in (Ev.hu192 hr)) (de_n (pv 1)) (de_g (by rfl) G.g_FIGURES) (by with_unfolding_all rfl)))))) da_nil))))))))
    (dss_one ds_no)
    dss_nil)
  (dss_one (ds_ret (dm_bty cd_int2 (by rfl) G.n_int (by decide +kernel) (da_cons (de_n (pv 0)) da_nil)))))
theorem ok_read_some (F : Fun K "read_some" "read_some" s_read_some f fd) (G : Gs w K mg) (C : Cs P w K mg base n call) : FnG P w K mg base (n + 1) f fd ["reading", "deep"] (spD (kg0 K mg) 2 (g_read_some call)) :=
  have SC := sc_read_some
  fn_ok ["reading", "deep", "found"] ["reading", "deep"] 2 3 (kpl [true, true]) (b_read_some call) (g_read_some call) rfl rfl rfl F SC fun cdv A outer s H E hr =>
  (dss_cons (ds_set (i := 2) SC.nd rfl (by first | exact .inl rfl | exact .inr rfl) rfl (dm_lst da_nil))
  (dss_cons (ds_while PassesOwn.never (dt_cmp (od_ne (Ev.hu192 hr)) (de_m (dm_mth0 (de_n (pv 0)) C.c_Reading__ahead hr)) de_str (nomark _))
    (dss_one (ds_expr (dm_app (pv 2) (de_m (dm_call C.c_read_one hr (by rfl) (da_cons (de_n (pv 0)) (da_cons (de_n (pv 1)) da_nil)) (many_cons (many_cons many_nil))))))))
  (dss_one (ds_ret (dm_bty cd_tuple (by rfl) G.n_tuple (by decide +kernel) (da_cons (de_n (pv 2)) da_nil))))))
theorem ok_read_pairs (F : Fun K "read_pairs" "read_pairs" s_read_pairs f fd) (G : Gs w K mg) (C : Cs P w K mg base n call) : FnG P w K mg base (n + 1) f fd ["reading", "deep"] (spD (kg0 K mg) 2 (g_read_pairs call)) :=
  have SC := sc_read_pairs
  fn_ok ["reading", "deep", "found", "word"] ["reading", "deep"] 2 4 (kpl [true, true]) (b_read_pairs call) (g_read_pairs call) rfl rfl rfl F SC fun cdv A outer s H E hr =>
  (dss_cons (ds_set (i := 2) SC.nd rfl (by first | exact .inl rfl | exact .inr rfl) rfl (dm_lst da_nil))
  (dss_cons (ds_expr (dm_mth (de_n (pv 0)) C.c_Reading__need hr (da_cons de_str da_nil) (many_cons many_nil)))
  (dss_cons (ds_while PassesOwn.never (dt_cmp (od_ne (Ev.hu192 hr)) (de_m (dm_mth0 (de_n (pv 0)) C.c_Reading__ahead hr)) de_str (nomark _))
    (dss_cons (ds_expr (dm_mth (de_n (pv 0)) C.c_Reading__need hr (da_cons de_str da_nil) (many_cons many_nil)))
  (dss_cons (ds_set (i := 3) SC.nd rfl (by first | exact .inl rfl | exact .inr rfl) rfl (dm_mth0 (de_n (pv 0)) C.c_Reading__taken hr))
  (dss_cons (ds_expr (dm_app (pv 2) (de_m (dm_tup (da_cons (de_n (pv 3)) (da_cons (de_m (dm_call C.c_read_one hr (by rfl) (da_cons (de_n (pv 0)) (da_cons (de_n (pv 1)) da_nil)) (many_cons (many_cons many_nil)))) da_nil))))))
  (dss_one (ds_expr (dm_mth (de_n (pv 0)) C.c_Reading__need hr (da_cons de_str da_nil) (many_cons many_nil))))))))
  (dss_cons (ds_expr (dm_mth (de_n (pv 0)) C.c_Reading__need hr (da_cons de_str da_nil) (many_cons many_nil)))
  (dss_one (ds_ret (dm_bty cd_tuple (by rfl) G.n_tuple (by decide +kernel) (da_cons (de_n (pv 2)) da_nil))))))))
theorem ok_read_inside (F : Fun K "read_inside" "read_inside" s_read_inside f fd) (G : Gs w K mg) (C : Cs P w K mg base n call) : FnG P w K mg base (n + 1) f fd ["reading", "word", "deep"] (spD (kg0 K mg) 3 (g_read_inside call)) :=
  have SC := sc_read_inside
  fn_ok ["reading", "word", "deep", "number", "name", "start", "turn", "body", "pairs"] ["reading", "word", "deep"] 3 9 (kpl [true, true, true]) (b_read_inside call) (g_read_inside call) rfl rfl rfl F SC fun cdv A outer s H E hr =>
  (dss_cons (ds_if (dt_cmp (od_in (Ev.hu192 hr)) (de_n (pv 1)) (de_g (by rfl) G.g_SIGNS) (by with_unfolding_all rfl))
    (dss_one (ds_ret (dm_bin od_add (de_m (dm_tup (da_cons de_str (da_cons (de_n (pv 1)) da_nil)))) (de_m (dm_call C.c_read_some hr (by rfl) (da_cons (de_n (pv 0)) (da_cons (de_n (pv 2)) da_nil)) (many_cons (many_cons many_nil)))))))
    dss_nil)
  (dss_cons (ds_if (dt_cmp (od_eq (Ev.hu192 hr)) (de_n (pv 1)) de_str (nomark _))
    (dss_one (ds_ret (dm_tup (da_cons (de_n (pv 1)) (da_cons (de_m (dm_call C.c_read_some hr (by rfl) (da_cons (de_n (pv 0)) (da_cons (de_n (pv 2)) da_nil)) (many_cons (many_cons many_nil)))) da_nil)))))
    dss_nil)
  (dss_cons (ds_if (dt_cmp (od_in (Ev.hu192 hr)) (de_n (pv 1)) (de_m (dm_tup (da_cons de_str (da_cons de_str da_nil)))) (by with_unfolding_all rfl))
    (dss_cons (ds_set (i := 3) SC.nd rfl (by first | exact .inl rfl | exact .inr rfl) rfl (dm_call C.c_number_in hr (by rfl) (da_cons (de_m (dm_mth0 (de_n (pv 0)) C.c_Reading__taken hr)) da_nil) (many_cons many_nil)))
  (dss_one (ds_ret (dm_tup (da_cons (de_n (pv 1)) (da_cons (de_n (pv 3)) (da_cons (de_m (dm_call C.c_read_one hr (by rfl) (da_cons (de_n (pv 0)) (da_cons (de_n (pv 2)) da_nil)) (many_cons (many_cons many_nil)))) da_nil)))))))
    dss_nil)
  (dss_cons (ds_if (dt_cmp (od_in (Ev.hu192 hr)) (de_n (pv 1)) (de_m (dm_tup (da_cons de_str (da_cons de_str da_nil)))) (by with_unfolding_all rfl))
    (dss_one (ds_ret (dm_bin od_add (de_m (dm_tup (da_cons (de_n (pv 1)) da_nil))) (de_m (dm_call C.c_read_some hr (by rfl) (da_cons (de_n (pv 0)) (da_cons (de_n (pv 2)) da_nil)) (many_cons (many_cons many_nil)))))))
    dss_nil)
  (dss_cons (ds_if (dt_cmp (od_in (Ev.hu192 hr)) (de_n (pv 1)) (de_m (dm_tup (da_cons de_str (da_cons de_str da_nil)))) (by with_unfolding_all rfl))
    (dss_cons (ds_set (i := 4) SC.nd rfl (by first | exact .inl rfl | exact .inr rfl) rfl (dm_mth0 (de_n (pv 0)) C.c_Reading__taken hr))
  (dss_one (ds_ret (dm_bin od_add (de_m (dm_tup (da_cons (de_n (pv 1)) (da_cons (de_n (pv 4)) da_nil)))) (de_m (dm_call C.c_read_some hr (by rfl) (da_cons (de_n (pv 0)) (da_cons (de_n (pv 2)) da_nil)) (many_cons (many_cons many_nil))))))))
    dss_nil)
  (dss_cons (ds_if (dt_cmp (od_eq (Ev.hu192 hr)) (de_n (pv 1)) de_str (nomark _))
    (dss_cons (ds_set (i := 4) SC.nd rfl (by first | exact .inl rfl | exact .inr rfl) rfl (dm_mth0 (de_n (pv 0)) C.c_Reading__taken hr))
  (dss_cons (ds_set (i := 5) SC.nd rfl (by first | exact .inl rfl | exact .inr rfl) rfl (dm_call C.c_read_one hr (by rfl) (da_cons (de_n (pv 0)) (da_cons (de_n (pv 2)) da_nil)) (many_cons (many_cons many_nil))))
  (dss_cons (ds_set (i := 6) SC.nd rfl (by first | exact .inl rfl | exact .inr rfl) rfl (dm_mth0 (de_n (pv 0)) C.c_Reading__taken hr))
  (dss_one (ds_ret (dm_bin od_add (de_m (dm_tup (da_cons (de_n (pv 1)) (da_cons (de_n (pv 4)) (da_cons (de_n (pv 5)) (da_cons (de_n (pv 6)) da_nil)))))) (de_m (dm_call C.c_read_some hr (by rfl) (da_cons (de_n (pv 0)) (da_cons (de_n (pv 2)) da_nil)) (many_cons (many_cons many_nil))))))))))
    dss_nil)
  (dss_cons (ds_if (dt_cmp (od_eq (Ev.hu192 hr)) (de_n (pv 1)) de_str (nomark _))
    (dss_cons (ds_set (i := 7) SC.nd rfl (by first | exact .inl rfl | exact .inr rfl) rfl (dm_call C.c_read_one hr (by rfl) (da_cons (de_n (pv 0)) (da_cons (de_n (pv 2)) da_nil)) (many_cons (many_cons many_nil))))
  (dss_cons (ds_set (i := 4) SC.nd rfl (by first | exact .inl rfl | exact .inr rfl) rfl (dm_mth0 (de_n (pv 0)) C.c_Reading__taken hr))
  (dss_one (ds_ret (dm_bin od_add (de_m (dm_tup (da_cons (de_n (pv 1)) (da_cons (de_n (pv 7)) (da_cons (de_n (pv 4)) da_nil))))) (de_m (dm_call C.c_read_some hr (by rfl) (da_cons (de_n (pv 0)) (da_cons (de_n (pv 2)) da_nil)) (many_cons (many_cons many_nil)))))))))
    dss_nil)
  (dss_cons (ds_if (dt_cmp (od_eq (Ev.hu192 hr)) (de_n (pv 1)) de_str (nomark _))
    (dss_cons (ds_set (i := 4) SC.nd rfl (by first | exact .inl rfl | exact .inr rfl) rfl (dm_mth0 (de_n (pv 0)) C.c_Reading__taken hr))
  (dss_cons (ds_set (i := 8) SC.nd rfl (by first | exact .inl rfl | exact .inr rfl) rfl (dm_call C.c_read_pairs hr (by rfl) (da_cons (de_n (pv 0)) (da_cons (de_n (pv 2)) da_nil)) (many_cons (many_cons many_nil))))
  (dss_one (ds_ret (dm_bin od_add (de_m (dm_tup (da_cons (de_n (pv 1)) (da_cons (de_n (pv 4)) (da_cons (de_n (pv 8)) da_nil))))) (de_m (dm_call C.c_read_some hr (by rfl) (da_cons (de_n (pv 0)) (da_cons (de_n (pv 2)) da_nil)) (many_cons (many_cons many_nil)))))))))
    dss_nil)
  (dss_one (ds_ret (dm_tup (da_cons de_str (da_cons (de_n (pv 1)) (da_cons (de_m (dm_call C.c_read_some hr (by rfl) (da_cons (de_n (pv 0)) (da_cons (de_n (pv 2)) da_nil)) (many_cons (many_cons many_nil)))) da_nil))))))))))))))
theorem ok_read_one (F : Fun K "read_one" "read_one" s_read_one f fd) (G : Gs w K mg) (C : Cs P w K mg base n call) : FnG P w K mg base (n + 1) f fd ["reading", "deep"] (spD (kg0 K mg) 2 (g_read_one call)) :=
  have SC := sc_read_one
  fn_ok ["reading", "deep", "word", "tree"] ["reading", "deep"] 2 4 (kpl [true, true]) (b_read_one call) (g_read_one call) rfl rfl rfl F SC fun cdv A outer s H E hr =>
  (dss_cons (ds_if (dt_cmp (od_eq (Ev.hu192 hr)) (de_n (pv 1)) de_int (nomark _))
    (dss_one ds_no)
    dss_nil)
  (dss_cons (ds_set (i := 2) SC.nd rfl (by first | exact .inl rfl | exact .inr rfl) rfl (dm_mth0 (de_n (pv 0)) C.c_Reading__taken hr))
  (dss_cons (ds_if (dt_cmp (od_eq (Ev.hu192 hr)) (de_n (pv 2)) de_str (nomark _))
    (dss_cons (ds_set (i := 3) SC.nd rfl (by first | exact .inl rfl | exact .inr rfl) rfl (dm_call C.c_read_inside hr (by rfl) (da_cons (de_n (pv 0)) (da_cons (de_m (dm_mth0 (de_n (pv 0)) C.c_Reading__taken hr)) (da_cons (de_m (dm_bin od_sub (de_n (pv 1)) de_int)) da_nil))) (many_cons (many_cons (many_cons many_nil)))))
  (dss_cons (ds_expr (dm_mth (de_n (pv 0)) C.c_Reading__need hr (da_cons de_str da_nil) (many_cons many_nil)))
  (dss_one (ds_retV (pv 3)))))
    dss_nil)
  (dss_cons (ds_if (dt_cmp (od_in (Ev.hu192 hr)) (de_n (pv 2)) (de_m (dm_tup (da_cons de_str (da_cons de_str da_nil)))) (by with_unfolding_all rfl))
    (dss_one (ds_ret (dm_tup (da_cons de_str (da_cons (de_m (dm_cmp (od_eq (Ev.hu192 hr)) (de_n (pv 2)) de_str (nomark _))) da_nil)))))
    dss_nil)
  (dss_cons (ds_if (dt_cmp (od_in (Ev.hu192 hr)) (de_m (dm_ix (de_n (pv 2)) de_int)) (de_g (by rfl) G.g_FIGURES) (by with_unfolding_all rfl))
    (dss_one (ds_ret (dm_tup (da_cons de_str (da_cons (de_m (dm_call C.c_number_in hr (by rfl) (da_cons (de_n (pv 2)) da_nil) (many_cons many_nil))) da_nil)))))
    dss_nil)
  (dss_one (ds_ret (dm_tup (da_cons de_str (da_cons (de_n (pv 2)) da_nil))))))))))
theorem ok_read_tree (F : Fun K "read_tree" "read_tree" s_read_tree f fd) (G : Gs w K mg) (C : Cs P w K mg base n call) : FnG P w K mg base (n + 1) f fd ["text"] (spD (kg0 K mg) 1 (g_read_tree call)) :=
  have SC := sc_read_tree
  fn_ok ["text", "reading", "tree"] ["text"] 1 3 (kpl [true]) (b_read_tree call) (g_read_tree call) rfl rfl rfl F SC fun cdv A outer s H E hr =>
  (dss_cons (ds_if (dt_not (dt_val (dm_blt cd_isi (by rfl) G.n_isinstance (by decide +kernel) (da_cons (de_n (pv 0)) (da_cons (de_c (pe_bltn (by rfl) G.n_str (by decide +kernel) (show RelV (.ty "str") _ from rfl)) fun _ => .ty _) da_nil)))))
    (dss_one ds_no)
    dss_nil)
  (dss_cons (ds_set (i := 1) SC.nd rfl (by first | exact .inl rfl | exact .inr rfl) rfl (dm_make C.i_Reading hr (by rfl) (da_cons (de_m (dm_call C.c_words_in hr (by rfl) (da_cons (de_n (pv 0)) da_nil) (many_cons many_nil))) da_nil) (many_cons many_nil)))
  (dss_cons (ds_set (i := 2) SC.nd rfl (by first | exact .inl rfl | exact .inr rfl) rfl (dm_call C.c_read_one hr (by rfl) (da_cons (de_n (pv 1)) (da_cons (de_g (by rfl) G.g_MOST_DEPTH) da_nil)) (many_cons (many_cons many_nil))))
  (dss_cons (ds_if (dt_w (dw_or (dt_not (dt_val (dm_call C.c_is_tree hr (by rfl) (da_cons (de_n (pv 2)) da_nil) (many_cons many_nil)))) (dw_or1 (dt_cmp (od_ne (Ev.hu192 hr)) (de_m (dm_call C.c_show_tree hr (by rfl) (da_cons (de_n (pv 2)) da_nil) (many_cons many_nil))) (de_n (pv 0)) (nomark _)))))
    (dss_one ds_no)
    dss_nil)
  (dss_one (ds_retV (pv 2)))))))
theorem ok__law_bag (F : Fun K "_law_bag" "_law_bag" s__law_bag f fd) (G : Gs w K mg) (C : Cs P w K mg base n call) : FnG P w K mg base (n + 1) f fd ["_law_script"] (spD (kg0 K mg) 1 (g__law_bag call)) :=
  have SC := sc__law_bag
  fn_ok ["_law_script", "_law_cell"] ["_law_script"] 1 2 (kpl [true]) (b__law_bag call) (g__law_bag call) rfl rfl rfl F SC fun cdv A outer s H E hr =>
  (dss_one (ds_ret (dm_lst (da_cons de_int (da_cons de_int (da_cons de_int (da_cons (de_m (dm_lc (own := [("_law_cell", 1)]) rfl SC.nd (di_any (di_seq (de_m (dm_sl (de_n (pv 0)) dp_no (dp_ix de_int))))) (blkOk_by (own := [("_law_cell", 1)]) (N := ["_law_script", "_law_cell"]) (sc := defScope s__law_bag) (by decide +kernel)) (fun _ _ _ _ _ => (dg_n rfl (pg_name (i := 1) SC.nd rfl (by first | exact .inl rfl | exact .inr rfl)))) (fun _ _ _ _ _ => dts_nil) (fun _ _ _ _ _ => (de_m (dm_blt cd_abs (by rfl) G.n_abs (by decide +kernel) (da_cons (de_n (pv 1)) da_nil)))))) da_nil)))))))
theorem ok__law_take (F : Fun K "_law_take" "_law_take" s__law_take f fd) (G : Gs w K mg) (C : Cs P w K mg base n call) : FnG P w K mg base (n + 1) f fd ["_law_bag_here", "_law_many"] (spD (kg0 K mg) 2 (g__law_take call)) :=
  have SC := sc__law_take
  fn_ok ["_law_bag_here", "_law_many", "_law_first", "_law_second", "_law_cell", "_law_value"] ["_law_bag_here", "_law_many"] 2 6 (kpl [true, true]) (b__law_take call) (g__law_take call) rfl rfl rfl F SC fun cdv A outer s H E hr =>
  (dss_cons (ds_if (dt_cmp (od_eq (Ev.hu192 hr)) (de_m (dm_ix (de_n (pv 0)) de_int)) de_int (nomark _))
    (dss_cons (ds_set (i := 4) SC.nd rfl (by first | exact .inl rfl | exact .inr rfl) rfl (dm_e de_int))
  (dss_cons (ds_if (dt_cmp od_lt (de_m (dm_ix (de_n (pv 0)) de_int)) (de_m (dm_blt cd_len (by rfl) G.n_len (by decide +kernel) (da_cons (de_m (dm_ix (de_n (pv 0)) de_int)) da_nil))) (nomark _))
    (dss_one (ds_set (i := 4) SC.nd rfl (by first | exact .inl rfl | exact .inr rfl) rfl (dm_ix (de_m (dm_ix (de_n (pv 0)) de_int)) (de_m (dm_ix (de_n (pv 0)) de_int)))))
    dss_nil)
  (dss_cons (ds_augIx (pv 0) de_int de_int oi_add)
  (dss_cons (ds_if (dt_cmp od_ge (de_n (pv 4)) de_int (nomark _))
    (dss_one (ds_setIx (de_n (pv 4)) (pv 0) de_int))
    dss_nil)
  (dss_one (ds_setIx (de_m (dm_bin od_mod (de_m (dm_bin od_add (de_m (dm_bin od_add (de_m (dm_bin od_mul (de_m (dm_ix (de_n (pv 0)) de_int)) de_int)) (de_m (dm_bin od_mod (de_n (pv 4)) de_int)))) (de_m (dm_bin od_mul de_int (de_m (dm_ix (de_n (pv 0)) de_int)))))) de_int)) (pv 0) de_int))))))
    dss_nil)
  (dss_cons (ds_if (dt_cmp od_gt (de_m (dm_ix (de_n (pv 0)) de_int)) de_int (nomark _))
    (dss_cons (ds_set (i := 5) SC.nd rfl (by first | exact .inl rfl | exact .inr rfl) rfl (dm_bin od_mod (de_m (dm_ix (de_n (pv 0)) de_int)) (de_n (pv 1))))
  (dss_cons (ds_setIx (de_m (dm_bin od_fdiv (de_m (dm_ix (de_n (pv 0)) de_int)) (de_n (pv 1)))) (pv 0) de_int)
  (dss_one (ds_retV (pv 5)))))
    dss_nil)
  (dss_cons (ds_set (i := 2) SC.nd rfl (by first | exact .inl rfl | exact .inr rfl) rfl (dm_bin od_mod (de_m (dm_bin od_mul (de_m (dm_bin od_add (de_m (dm_ix (de_n (pv 0)) de_int)) de_int)) de_int)) de_int))
  (dss_cons (ds_set (i := 3) SC.nd rfl (by first | exact .inl rfl | exact .inr rfl) rfl (dm_bin od_mod (de_m (dm_bin od_mul (de_m (dm_bin od_mod (de_m (dm_bin od_mul (de_n (pv 2)) (de_n (pv 2)))) de_int)) de_int)) de_int))
  (dss_cons (ds_if (dt_cmp od_gt (de_n (pv 1)) de_int (nomark _))
    (dss_one (ds_ret (dm_bin od_mod (de_m (dm_bin od_add (de_m (dm_bin od_mul (de_n (pv 3)) de_int)) (de_n (pv 2)))) (de_n (pv 1)))))
    dss_nil)
  (dss_one (ds_ret (dm_bin od_mod (de_m (dm_bin od_fdiv (de_n (pv 3)) de_int)) (de_n (pv 1))))))))))
theorem ok__law_words (F : Fun K "_law_words" "_law_words" s__law_words f fd) (G : Gs w K mg) (C : Cs P w K mg base n call) : FnG P w K mg base (n + 1) f fd ["_law_bag_here", "_law_many"] (spD (kg0 K mg) 2 (g__law_words call)) :=
  have SC := sc__law_words
  fn_ok ["_law_bag_here", "_law_many", "_law_letters", "_law_some", "_law_way", "_law_turn", "_law_base", "_law_tails", "_law_at", "_law_k", "_law_tail"] ["_law_bag_here", "_law_many"] 2 11 (kpl [true, true]) (b__law_words call) (g__law_words call) rfl rfl rfl F SC fun cdv A outer s H E hr =>
  (dss_cons (ds_set (i := 2) SC.nd rfl (by first | exact .inl rfl | exact .inr rfl) rfl (dm_e de_str))
  (dss_cons (ds_set (i := 3) SC.nd rfl (by first | exact .inl rfl | exact .inr rfl) rfl (dm_lst (da_cons de_str (da_cons de_str (da_cons de_str (da_cons de_str (da_cons de_str (da_cons de_str (da_cons de_str (da_cons de_str (da_cons de_str (da_cons de_str (da_cons de_str (da_cons de_str (da_cons de_str da_nil)))))))))))))))
  (dss_cons (ds_set (i := 4) SC.nd rfl (by first | exact .inl rfl | exact .inr rfl) rfl (dm_call C.c__law_take hr (by rfl) (da_cons (de_n (pv 0)) (da_cons de_int da_nil)) (many_cons (many_cons many_nil))))
  (dss_cons (ds_set (i := 5) SC.nd rfl (by first | exact .inl rfl | exact .inr rfl) rfl (dm_call C.c__law_take hr (by rfl) (da_cons (de_n (pv 0)) (da_cons de_int da_nil)) (many_cons (many_cons many_nil))))
  (dss_cons (ds_set (i := 6) SC.nd rfl (by first | exact .inl rfl | exact .inr rfl) rfl (dm_bin od_mul (de_m (dm_ix (de_n (pv 2)) (de_m (dm_call C.c__law_take hr (by rfl) (da_cons (de_n (pv 0)) (da_cons de_int da_nil)) (many_cons (many_cons many_nil)))))) (de_m (dm_bin od_add de_int (de_m (dm_call C.c__law_take hr (by rfl) (da_cons (de_n (pv 0)) (da_cons de_int da_nil)) (many_cons (many_cons many_nil))))))))
  (dss_cons (ds_if (dt_cmp (od_eq (Ev.hu192 hr)) (de_n (pv 4)) de_int (nomark _))
    (dss_cons (ds_set (i := 7) SC.nd rfl (by first | exact .inl rfl | exact .inr rfl) rfl (dm_lst (da_cons de_str (da_cons de_str (da_cons de_str (da_cons de_str (da_cons de_str (da_cons de_str (da_cons de_str (da_cons de_str (da_cons de_str (da_cons de_str (da_cons de_str (da_cons de_str da_nil))))))))))))))
  (dss_cons (ds_set (i := 7) SC.nd rfl (by first | exact .inl rfl | exact .inr rfl) rfl (dm_bin od_add (de_m (dm_sl (de_n (pv 7)) (dp_ix (de_m (dm_bin od_mod (de_n (pv 5)) de_int))) dp_no)) (de_m (dm_sl (de_n (pv 7)) dp_no (dp_ix (de_m (dm_bin od_mod (de_n (pv 5)) de_int)))))))
  (dss_one (ds_ret (dm_lc (own := [("_law_tail", 10)]) rfl SC.nd (di_any (di_seq (de_m (dm_sl (de_n (pv 7)) dp_no (dp_ix (de_n (pv 1))))))) (blkOk_by (own := [("_law_tail", 10)]) (N := ["_law_bag_here", "_law_many", "_law_letters", "_law_some", "_law_way", "_law_turn", "_law_base", "_law_tails", "_law_at", "_law_k", "_law_tail"]) (sc := defScope s__law_words) (by decide +kernel)) (fun _ _ _ _ _ => (dg_n rfl (pg_name (i := 10) SC.nd rfl (by first | exact .inl rfl | exact .inr rfl)))) (fun _ _ _ _ _ => dts_nil) (fun _ _ _ _ _ => (de_m (dm_bin od_add (de_n (pv 6)) (de_n (pv 10))))))))))
    dss_nil)
  (dss_cons (ds_if (dt_cmp (od_eq (Ev.hu192 hr)) (de_n (pv 4)) de_int (nomark _))
    (dss_one (ds_ret (dm_sl (de_m (dm_bin od_add (de_m (dm_sl (de_n (pv 3)) (dp_ix (de_m (dm_bin od_mod (de_n (pv 5)) de_int))) dp_no)) (de_m (dm_sl (de_n (pv 3)) dp_no (dp_ix (de_m (dm_bin od_mod (de_n (pv 5)) de_int))))))) dp_no (dp_ix (de_n (pv 1))))))
    dss_nil)
  (dss_cons (ds_if (dt_cmp (od_eq (Ev.hu192 hr)) (de_n (pv 4)) de_int (nomark _))
    (dss_cons (ds_set (i := 6) SC.nd rfl (by first | exact .inl rfl | exact .inr rfl) rfl (dm_bin od_add (de_n (pv 6)) (de_m (dm_bin od_mul (de_n (pv 6)) (de_m (dm_bty cd_int (by rfl) G.n_int (by decide +kernel) (da_cons (de_m (dm_cmp (od_eq (Ev.hu192 hr)) (de_m (dm_blt cd_len (by rfl) G.n_len (by decide +kernel) (da_cons (de_n (pv 6)) da_nil))) de_int (nomark _))) da_nil)))))))
  (dss_cons (ds_set (i := 8) SC.nd rfl (by first | exact .inl rfl | exact .inr rfl) rfl (dm_bin od_mod (de_n (pv 5)) (de_m (dm_blt cd_len (by rfl) G.n_len (by decide +kernel) (da_cons (de_n (pv 6)) da_nil)))))
  (dss_one (ds_ret (dm_lc (own := [("_law_k", 9)]) rfl SC.nd (di_any (di_rng1 (by rfl) G.n_range (de_n (pv 1)))) (blkOk_by (own := [("_law_k", 9)]) (N := ["_law_bag_here", "_law_many", "_law_letters", "_law_some", "_law_way", "_law_turn", "_law_base", "_law_tails", "_law_at", "_law_k", "_law_tail"]) (sc := defScope s__law_words) (by decide +kernel)) (fun _ _ _ _ _ => (dg_n rfl (pg_name (i := 9) SC.nd rfl (by first | exact .inl rfl | exact .inr rfl)))) (fun _ _ _ _ _ => dts_nil) (fun _ _ _ _ _ => (de_m (dm_bin od_add (de_m (dm_bin od_add (de_m (dm_sl (de_n (pv 6)) dp_no (dp_ix (de_n (pv 8))))) (de_m (dm_ix (de_n (pv 2)) (de_m (dm_bin od_mod (de_m (dm_bin od_add (de_n (pv 5)) (de_n (pv 9)))) de_int)))))) (de_m (dm_sl (de_n (pv 6)) (dp_ix (de_m (dm_bin od_add (de_n (pv 8)) de_int))) dp_no))))))))))
    dss_nil)
  (dss_one (ds_ret (dm_lc (own := [("_law_k", 9)]) rfl SC.nd (di_any (di_rng1 (by rfl) G.n_range (de_n (pv 1)))) (blkOk_by (own := [("_law_k", 9)]) (N := ["_law_bag_here", "_law_many", "_law_letters", "_law_some", "_law_way", "_law_turn", "_law_base", "_law_tails", "_law_at", "_law_k", "_law_tail"]) (sc := defScope s__law_words) (by decide +kernel)) (fun _ _ _ _ _ => (dg_n rfl (pg_name (i := 9) SC.nd rfl (by first | exact .inl rfl | exact .inr rfl)))) (fun _ _ _ _ _ => dts_nil) (fun _ _ _ _ _ => (de_m (dm_bin od_add (de_m (dm_ix (de_n (pv 2)) (de_m (dm_bin od_mod (de_m (dm_bin od_add (de_n (pv 5)) (de_m (dm_bin od_fdiv (de_n (pv 9)) de_int)))) de_int)))) (de_m (dm_ix (de_m (dm_lst (da_cons de_str (da_cons de_str (da_cons de_str da_nil))))) (de_m (dm_bin od_mod (de_n (pv 9)) de_int))))))))))))))))))
theorem ok__law_plain (F : FunV K "_law_plain" "_law_plain" s__law_plain f fd) (G : Gs w K mg) (C : Cs P w K mg base n call) : FnG P w K mg base (n + 1) f fd ["_law_bag_here", "_law_scope", "_law_mild"] (spD (kg0 K mg) 3 (g__law_plain call)) :=
  have SC := sc__law_plain
  fn_okV ["_law_bag_here", "_law_scope", "_law_mild", "_law_way"] ["_law_bag_here", "_law_scope", "_law_mild"] 3 4 (kpl [true, true, true]) (b__law_plain call) (g__law_plain call) rfl rfl rfl F SC fun cdv A outer s H E hr =>
  (dss_cons (ds_set (i := 3) SC.nd rfl (by first | exact .inl rfl | exact .inr rfl) rfl (dm_call C.c__law_take hr (by rfl) (da_cons (de_n (pv 0)) (da_cons de_int da_nil)) (many_cons (many_cons many_nil))))
  (dss_cons (ds_if (dt_w (dw_and (dt_cmp od_gt (de_n (pv 3)) de_int (nomark _)) (dw_and1 (dt_cmp (od_ne (Ev.hu192 hr)) (de_n (pv 1)) (de_m (dm_lst da_nil)) (nomark _)))))
    (dss_one (ds_ret (dm_tup (da_cons de_str (da_cons (de_m (dm_ix (de_n (pv 1)) (de_m (dm_call C.c__law_take hr (by rfl) (da_cons (de_n (pv 0)) (da_cons (de_m (dm_blt cd_len (by rfl) G.n_len (by decide +kernel) (da_cons (de_n (pv 1)) da_nil))) da_nil)) (many_cons (many_cons many_nil)))))) da_nil)))))
    dss_nil)
  (dss_cons (ds_if (dt_w (dw_and (dt_cmp (od_eq (Ev.hu192 hr)) (de_n (pv 3)) de_int (nomark _)) (dw_and1 (dt_cmp (od_eq (Ev.hu192 hr)) (de_n (pv 2)) de_int (nomark _)))))
    (dss_one (ds_ret (dm_tup (da_cons de_str (da_cons (de_m (dm_cmp (od_eq (Ev.hu192 hr)) (de_m (dm_call C.c__law_take hr (by rfl) (da_cons (de_n (pv 0)) (da_cons de_int da_nil)) (many_cons (many_cons many_nil)))) de_int (nomark _))) da_nil)))))
    dss_nil)
  (dss_cons (ds_if (dt_w (dw_and (dt_cmp (od_eq (Ev.hu192 hr)) (de_n (pv 3)) de_int (nomark _)) (dw_and1 (dt_cmp (od_eq (Ev.hu192 hr)) (de_n (pv 2)) de_int (nomark _)))))
    (dss_one (ds_ret (dm_tup (da_cons de_str (da_cons (de_m (dm_call C.c__law_take hr (by rfl) (da_cons (de_n (pv 0)) (da_cons (de_m (dm_bin od_add (de_m (dm_bin od_pow de_int de_int)) de_int)) da_nil)) (many_cons (many_cons many_nil)))) da_nil)))))
    dss_nil)
  (dss_one (ds_ret (dm_tup (da_cons de_str (da_cons (de_m (dm_call C.c__law_take hr (by rfl) (da_cons (de_n (pv 0)) (da_cons de_int da_nil)) (many_cons (many_cons many_nil)))) da_nil)))))))))
theorem ok__law_node (F : FunV K "_law_node" "_law_node" s__law_node f fd) (G : Gs w K mg) (C : Cs P w K mg base n call) : FnG P w K mg base (n + 1) f fd ["_law_bag_here", "_law_way", "_law_head", "_law_some", "_law_two", "_law_mild"] (spD (kg0 K mg) 6 (g__law_node call)) :=
  have SC := sc__law_node
  fn_okV ["_law_bag_here", "_law_way", "_law_head", "_law_some", "_law_two", "_law_mild", "_law_one", "_law_number", "_law_test", "_law_turns"] ["_law_bag_here", "_law_way", "_law_head", "_law_some", "_law_two", "_law_mild"] 6 10 (kpl [true, true, true, true, true, true]) (b__law_node call) (g__law_node call) rfl rfl rfl F SC fun cdv A outer s H E hr =>
  (dss_cons (ds_if (dt_cmp od_lt (de_n (pv 1)) de_int (nomark _))
    (dss_one (ds_ret (dm_tup (da_cons de_str (da_cons (de_m (dm_ix (de_n (pv 2)) de_int)) (da_cons (de_m (dm_bty cd_tuple (by rfl) G.n_tuple (by decide +kernel) (da_cons (de_n (pv 3)) da_nil))) da_nil))))))
    dss_nil)
  (dss_cons (ds_if (dt_cmp od_lt (de_n (pv 1)) de_int (nomark _))
    (dss_one (ds_ret (dm_tup (da_cons de_str (da_cons (de_m (dm_ix (de_m (dm_ix (de_m (dm_lst (da_cons de_str (da_cons de_str da_nil)))) (de_n (pv 5)))) (de_m (dm_call C.c__law_take hr (by rfl) (da_cons (de_n (pv 0)) (da_cons de_int da_nil)) (many_cons (many_cons many_nil)))))) (da_cons (de_m (dm_ix (de_n (pv 3)) de_int)) (da_cons (de_m (dm_ix (de_n (pv 3)) de_int)) da_nil)))))))
    dss_nil)
  (dss_cons (ds_if (dt_cmp (od_eq (Ev.hu192 hr)) (de_n (pv 1)) de_int (nomark _))
    (dss_one (ds_ret (dm_ix (de_m (dm_lst (da_cons (de_m (dm_tup (da_cons de_str (da_cons (de_m (dm_bty cd_tuple (by rfl) G.n_tuple (by decide +kernel) (da_cons (de_n (pv 3)) da_nil))) da_nil)))) (da_cons (de_m (dm_tup (da_cons de_str (da_cons (de_m (dm_tup (da_cons de_str (da_cons (de_m (dm_bty cd_tuple (by rfl) G.n_tuple (by decide +kernel) (da_cons (de_n (pv 3)) da_nil))) da_nil)))) da_nil)))) da_nil)))) (de_n (pv 5)))))
    dss_nil)
  (dss_cons (ds_if (dt_cmp (od_eq (Ev.hu192 hr)) (de_n (pv 1)) de_int (nomark _))
    (dss_cons (ds_set (i := 6) SC.nd rfl (by first | exact .inl rfl | exact .inr rfl) rfl (dm_ix (de_m (dm_lst (da_cons (de_m (dm_ix (de_n (pv 3)) de_int)) (da_cons (de_m (dm_tup (da_cons de_str (da_cons (de_m (dm_tup (da_cons (de_m (dm_ix (de_n (pv 3)) de_int)) da_nil))) da_nil)))) da_nil)))) (de_n (pv 5))))
  (dss_one (ds_ret (dm_ix (de_m (dm_lst (da_cons (de_m (dm_tup (da_cons de_str (da_cons (de_n (pv 6)) da_nil)))) (da_cons (de_m (dm_tup (da_cons de_str (da_cons (de_m (dm_ix (de_m (dm_lst (da_cons (de_m (dm_bin od_add de_int (de_m (dm_call C.c__law_take hr (by rfl) (da_cons (de_n (pv 0)) (da_cons de_int da_nil)) (many_cons (many_cons many_nil)))))) (da_cons de_int da_nil)))) (de_n (pv 5)))) (da_cons (de_n (pv 6)) da_nil))))) da_nil)))) (de_m (dm_call C.c__law_take hr (by rfl) (da_cons (de_n (pv 0)) (da_cons de_int da_nil)) (many_cons (many_cons many_nil))))))))
    dss_nil)
  (dss_cons (ds_if (dt_cmp (od_eq (Ev.hu192 hr)) (de_n (pv 1)) de_int (nomark _))
    (dss_cons (ds_set (i := 7) SC.nd rfl (by first | exact .inl rfl | exact .inr rfl) rfl (dm_call C.c__law_take hr (by rfl) (da_cons (de_n (pv 0)) (da_cons de_int da_nil)) (many_cons (many_cons many_nil))))
  (dss_cons (ds_set (i := 8) SC.nd rfl (by first | exact .inl rfl | exact .inr rfl) rfl (dm_ix (de_n (pv 3)) de_int))
  (dss_cons (ds_if (dt_cmp (od_eq (Ev.hu192 hr)) (de_n (pv 5)) de_int (nomark _))
    (dss_one (ds_set (i := 8) SC.nd rfl (by first | exact .inl rfl | exact .inr rfl) rfl (dm_tup (da_cons de_str (da_cons de_str (da_cons (de_n (pv 8)) (da_cons (de_m (dm_tup (da_cons de_str (da_cons (de_n (pv 7)) da_nil)))) da_nil)))))))
    (dss_one (ds_if (dt_cmp (od_eq (Ev.hu192 hr)) (de_m (dm_ix (de_n (pv 8)) de_int)) de_str (nomark _))
    (dss_one (ds_set (i := 8) SC.nd rfl (by first | exact .inl rfl | exact .inr rfl) rfl (dm_tup (da_cons de_str (da_cons (de_m (dm_cmp (od_eq (Ev.hu192 hr)) (de_n (pv 7)) de_int (nomark _))) da_nil)))))
    dss_nil)))
  (dss_one (ds_ret (dm_tup (da_cons de_str (da_cons (de_n (pv 8)) (da_cons (de_m (dm_ix (de_n (pv 3)) de_int)) (da_cons (de_m (dm_ix (de_n (pv 3)) de_int)) da_nil))))))))))
    dss_nil)
  (dss_cons (ds_if (dt_cmp od_lt (de_n (pv 1)) de_int (nomark _))
    (dss_one (ds_ret (dm_tup (da_cons de_str (da_cons (de_m (dm_ix (de_n (pv 4)) de_int)) (da_cons (de_m (dm_ix (de_n (pv 3)) de_int)) (da_cons (de_m (dm_ix (de_n (pv 3)) de_int)) da_nil)))))))
    dss_nil)
  (dss_cons (ds_if (dt_cmp (od_eq (Ev.hu192 hr)) (de_n (pv 1)) de_int (nomark _))
    (dss_cons (ds_set (i := 7) SC.nd rfl (by first | exact .inl rfl | exact .inr rfl) rfl (dm_tup (da_cons de_str (da_cons (de_m (dm_call C.c__law_take hr (by rfl) (da_cons (de_n (pv 0)) (da_cons (de_m (dm_ix (de_m (dm_lst (da_cons de_int (da_cons de_int da_nil)))) (de_m (dm_bty cd_int (by rfl) G.n_int (by decide +kernel) (da_cons (de_m (dm_cmp (od_eq (Ev.hu192 hr)) (de_m (dm_call C.c__law_take hr (by rfl) (da_cons (de_n (pv 0)) (da_cons de_int da_nil)) (many_cons (many_cons many_nil)))) de_int (nomark _))) da_nil))))) da_nil)) (many_cons (many_cons many_nil)))) da_nil))))
  (dss_cons (ds_set (i := 9) SC.nd rfl (by first | exact .inl rfl | exact .inr rfl) rfl (dm_ix (de_m (dm_lst (da_cons (de_m (dm_ix (de_n (pv 3)) de_int)) (da_cons (de_n (pv 7)) da_nil)))) (de_m (dm_blt (cd_max rfl) (by rfl) G.n_max (by decide +kernel) (da_cons (de_n (pv 5)) (da_cons (de_m (dm_call C.c__law_take hr (by rfl) (da_cons (de_n (pv 0)) (da_cons de_int da_nil)) (many_cons (many_cons many_nil)))) da_nil))))))
  (dss_one (ds_ret (dm_tup (da_cons de_str (da_cons (de_m (dm_ix (de_n (pv 4)) de_int)) (da_cons (de_m (dm_ix (de_n (pv 3)) de_int)) (da_cons (de_m (dm_ix (de_n (pv 4)) de_int)) (da_cons (de_n (pv 9)) (da_cons (de_m (dm_ix (de_n (pv 3)) de_int)) da_nil)))))))))))
    dss_nil)
  (dss_cons (ds_if (dt_w (dw_and (dt_cmp (od_eq (Ev.hu192 hr)) (de_n (pv 1)) de_int (nomark _)) (dw_and1 (dt_cmp (od_eq (Ev.hu192 hr)) (de_n (pv 3)) (de_m (dm_lst da_nil)) (nomark _)))))
    (dss_one (ds_ret (dm_tup (da_cons de_str (da_cons (de_m (dm_ix (de_n (pv 4)) de_int)) da_nil)))))
    dss_nil)
  (dss_cons (ds_if (dt_cmp (od_eq (Ev.hu192 hr)) (de_n (pv 1)) de_int (nomark _))
    (dss_one (ds_ret (dm_tup (da_cons de_str (da_cons (de_m (dm_ix (de_n (pv 3)) de_int)) (da_cons (de_m (dm_ix (de_m (dm_lst (da_cons (de_m (dm_ix (de_n (pv 4)) de_int)) (da_cons de_str (da_cons de_str (da_cons de_str da_nil)))))) (de_m (dm_call C.c__law_take hr (by rfl) (da_cons (de_n (pv 0)) (da_cons de_int da_nil)) (many_cons (many_cons many_nil)))))) (da_cons (de_m (dm_ix (de_n (pv 3)) de_int)) da_nil)))))))
    dss_nil)
  (dss_one (ds_ret (dm_tup (da_cons de_str (da_cons (de_m (dm_ix (de_m (dm_lst (da_cons (de_m (dm_call C.c__law_take hr (by rfl) (da_cons (de_n (pv 0)) (da_cons de_int da_nil)) (many_cons (many_cons many_nil)))) (da_cons (de_m (dm_bin od_pow de_int de_int)) da_nil)))) (de_m (dm_bty cd_int (by rfl) G.n_int (by decide +kernel) (da_cons (de_m (dm_cmp (od_eq (Ev.hu192 hr)) (de_m (dm_call C.c__law_take hr (by rfl) (da_cons (de_n (pv 0)) (da_cons de_int da_nil)) (many_cons (many_cons many_nil)))) de_int (nomark _))) da_nil))))) (da_cons (de_m (dm_ix (de_n (pv 3)) de_int)) da_nil)))))))))))))))
theorem ok__law_any (F : Fun K "_law_any" "_law_any" s__law_any f fd) (G : Gs w K mg) (C : Cs P w K mg base n call) : FnG P w K mg base (n + 1) f fd ["_law_bag_here", "_law_words_here", "_law_room", "_law_deep"] (spD (kg0 K mg) 4 (g__law_any call)) :=
  have SC := sc__law_any
  fn_ok ["_law_bag_here", "_law_words_here", "_law_room", "_law_deep", "_law_way", "_law_at", "_law_two", "_law_size", "_law_many", "_law_share", "_law_some", "_law_pairs", "_law_k"] ["_law_bag_here", "_law_words_here", "_law_room", "_law_deep"] 4 13 (kpl [true, true, true, true]) (b__law_any call) (g__law_any call) rfl rfl rfl F SC fun cdv A outer s H E hr =>
  (dss_cons (ds_set (i := 4) SC.nd rfl (by first | exact .inl rfl | exact .inr rfl) rfl (dm_call C.c__law_take hr (by rfl) (da_cons (de_n (pv 0)) (da_cons de_int da_nil)) (many_cons (many_cons many_nil))))
  (dss_cons (ds_set (i := 5) SC.nd rfl (by first | exact .inl rfl | exact .inr rfl) rfl (dm_call C.c__law_take hr (by rfl) (da_cons (de_n (pv 0)) (da_cons (de_m (dm_blt cd_len (by rfl) G.n_len (by decide +kernel) (da_cons (de_n (pv 1)) da_nil))) da_nil)) (many_cons (many_cons many_nil))))
  (dss_cons (ds_set (i := 6) SC.nd rfl (by first | exact .inl rfl | exact .inr rfl) rfl (dm_tup (da_cons (de_m (dm_ix (de_n (pv 1)) (de_n (pv 5)))) (da_cons (de_m (dm_ix (de_n (pv 1)) (de_m (dm_bin od_mod (de_m (dm_bin od_add (de_n (pv 5)) de_int)) (de_m (dm_blt cd_len (by rfl) G.n_len (by decide +kernel) (da_cons (de_n (pv 1)) da_nil))))))) da_nil))))
  (dss_cons (ds_set (i := 7) SC.nd rfl (by first | exact .inl rfl | exact .inr rfl) rfl (dm_call C.c__law_take hr (by rfl) (da_cons (de_n (pv 0)) (da_cons de_int da_nil)) (many_cons (many_cons many_nil))))
  (dss_cons (ds_set (i := 8) SC.nd rfl (by first | exact .inl rfl | exact .inr rfl) rfl (dm_ix (de_m (dm_bin od_add (de_m (dm_bin od_add (de_m (dm_bin od_mul (de_m (dm_lst (da_cons (de_n (pv 7)) da_nil))) de_int)) (de_m (dm_lst (da_cons de_int (da_cons de_int (da_cons de_int (da_cons (de_n (pv 7)) (da_cons de_int (da_cons de_int (da_cons de_int (da_cons de_int (da_cons de_int (da_cons (de_m (dm_bin od_mul de_int (de_m (dm_bin od_mod (de_n (pv 7)) de_int)))) (da_cons de_int da_nil))))))))))))))) (de_m (dm_bin od_mul (de_m (dm_lst (da_cons (de_m (dm_bin od_add de_int (de_n (pv 7)))) da_nil))) de_int)))) (de_n (pv 4))))
  (dss_cons (ds_if (dt_w (dw_or (dt_cmp od_lt (de_n (pv 2)) (de_m (dm_bin od_add de_int (de_n (pv 8)))) (nomark _)) (dw_or1 (dt_cmp od_lt (de_n (pv 3)) de_int (nomark _)))))
    (dss_one (ds_ret (dm_callD C.d__law_plain hr (by rfl) (da_cons (de_n (pv 0)) (da_cons (de_n (pv 1)) da_nil)) (many_cons (many_cons many_nil)))))
    dss_nil)
  (dss_cons (ds_set (i := 9) SC.nd rfl (by first | exact .inl rfl | exact .inr rfl) rfl (dm_bin od_fdiv (de_m (dm_bin od_sub (de_n (pv 2)) de_int)) (de_m (dm_blt (cd_max rfl) (by rfl) G.n_max (by decide +kernel) (da_cons de_int (da_cons (de_n (pv 8)) da_nil))))))
  (dss_cons (ds_set (i := 10) SC.nd rfl (by first | exact .inl rfl | exact .inr rfl) rfl (dm_lc (own := [("_law_k", 12)]) rfl SC.nd (di_any (di_rng1 (by rfl) G.n_range (de_n (pv 8)))) (blkOk_by (own := [("_law_k", 12)]) (N := ["_law_bag_here", "_law_words_here", "_law_room", "_law_deep", "_law_way", "_law_at", "_law_two", "_law_size", "_law_many", "_law_share", "_law_some", "_law_pairs", "_law_k"]) (sc := defScope s__law_any) (by decide +kernel)) (fun _ _ _ _ _ => (dg_n rfl (pg_name (i := 12) SC.nd rfl (by first | exact .inl rfl | exact .inr rfl)))) (fun _ _ _ _ _ => dts_nil) (fun _ _ _ _ _ => (de_m (dm_call C.c__law_any hr (by rfl) (da_cons (de_n (pv 0)) (da_cons (de_n (pv 1)) (da_cons (de_n (pv 9)) (da_cons (de_m (dm_bin od_sub (de_n (pv 3)) de_int)) da_nil)))) (many_cons (many_cons (many_cons (many_cons many_nil)))))))))
  (dss_cons (ds_if (dt_cmp od_lt (de_n (pv 4)) de_int (nomark _))
    (dss_one (ds_ret (dm_callD C.d__law_node hr (by rfl) (da_cons (de_n (pv 0)) (da_cons (de_n (pv 4)) (da_cons (de_n (pv 6)) (da_cons (de_n (pv 10)) (da_cons (de_n (pv 6)) da_nil))))) (many_cons (many_cons (many_cons (many_cons (many_cons many_nil))))))))
    dss_nil)
  (dss_cons (ds_setLc (i := 11) (own := [("_law_k", 12)]) rfl SC.nd rfl rfl rfl (sw_true rfl rfl rfl (by decide +kernel)) (di_any (di_rng1 (by rfl) G.n_range (de_n (pv 7)))) (blkOk_by (own := [("_law_k", 12)]) (N := ["_law_bag_here", "_law_words_here", "_law_room", "_law_deep", "_law_way", "_law_at", "_law_two", "_law_size", "_law_many", "_law_share", "_law_some", "_law_pairs", "_law_k"]) (sc := defScope s__law_any) (by decide +kernel)) (fun _ _ _ _ _ => (dg_n rfl (pg_name (i := 12) SC.nd rfl (by first | exact .inl rfl | exact .inr rfl)))) (fun _ _ _ _ _ => dts_nil) (fun _ _ _ _ _ => (de_m (dm_tup (da_cons (de_m (dm_ix (de_n (pv 1)) (de_m (dm_bin od_mod (de_m (dm_bin od_add (de_n (pv 5)) (de_n (pv 12)))) (de_m (dm_blt cd_len (by rfl) G.n_len (by decide +kernel) (da_cons (de_n (pv 1)) da_nil))))))) (da_cons (de_m (dm_ix (de_n (pv 10)) (de_n (pv 12)))) da_nil))))))
  (dss_one (ds_ret (dm_tup (da_cons de_str (da_cons (de_m (dm_ix (de_n (pv 6)) de_int)) (da_cons (de_m (dm_bty cd_tuple (by rfl) G.n_tuple (by decide +kernel) (da_cons (de_n (pv 11)) da_nil))) (da_cons (de_m (dm_ix (de_n (pv 10)) (de_m (dm_neg de_int)))) da_nil)))))))))))))))))
theorem ok__law_parts (F : Fun K "_law_parts" "_law_parts" s__law_parts f fd) (G : Gs w K mg) (C : Cs P w K mg base n call) : FnG P w K mg base (n + 1) f fd ["_law_tree"] (spD (kg0 K mg) 1 (g__law_parts call)) :=
  have SC := sc__law_parts
  fn_ok ["_law_tree", "_law_word", "_law_pair"] ["_law_tree"] 1 3 (kpl [true]) (b__law_parts call) (g__law_parts call) rfl rfl rfl F SC fun cdv A outer s H E hr =>
  (dss_cons (ds_set (i := 1) SC.nd rfl (by first | exact .inl rfl | exact .inr rfl) rfl (dm_ix (de_n (pv 0)) de_int))
  (dss_cons (ds_if (dt_cmp (od_in (Ev.hu192 hr)) (de_n (pv 1)) (de_m (dm_tup (da_cons de_str (da_cons de_str (da_cons de_str (da_cons de_str da_nil)))))) (by with_unfolding_all rfl))
    (dss_one (ds_ret (dm_lst da_nil)))
    dss_nil)
  (dss_cons (ds_if (dt_cmp (od_in (Ev.hu192 hr)) (de_n (pv 1)) (de_m (dm_tup (da_cons de_str (da_cons de_str da_nil)))) (by with_unfolding_all rfl))
    (dss_one (ds_ret (dm_lst (da_cons (de_m (dm_ix (de_n (pv 0)) de_int)) (da_cons (de_m (dm_ix (de_n (pv 0)) de_int)) da_nil)))))
    dss_nil)
  (dss_cons (ds_if (dt_cmp (od_in (Ev.hu192 hr)) (de_n (pv 1)) (de_m (dm_tup (da_cons de_str (da_cons de_str da_nil)))) (by with_unfolding_all rfl))
    (dss_one (ds_ret (dm_lst (da_cons (de_m (dm_ix (de_n (pv 0)) de_int)) da_nil))))
    dss_nil)
  (dss_cons (ds_if (dt_cmp (od_in (Ev.hu192 hr)) (de_n (pv 1)) (de_m (dm_tup (da_cons de_str (da_cons de_str da_nil)))) (by with_unfolding_all rfl))
    (dss_one (ds_ret (dm_bty cd_list (by rfl) G.n_list (by decide +kernel) (da_cons (de_m (dm_sl (de_n (pv 0)) (dp_ix de_int) dp_no)) da_nil))))
    dss_nil)
  (dss_cons (ds_if (dt_cmp (od_eq (Ev.hu192 hr)) (de_n (pv 1)) de_str (nomark _))
    (dss_one (ds_ret (dm_bty cd_list (by rfl) G.n_list (by decide +kernel) (da_cons (de_m (dm_ix (de_n (pv 0)) de_int)) da_nil))))
    dss_nil)
  (dss_cons (ds_if (dt_cmp (od_eq (Ev.hu192 hr)) (de_n (pv 1)) de_str (nomark _))
    (dss_one (ds_ret (dm_lst (da_cons (de_m (dm_ix (de_n (pv 0)) de_int)) (da_cons (de_m (dm_ix (de_n (pv 0)) de_int)) (da_cons (de_m (dm_ix (de_n (pv 0)) de_int)) da_nil))))))
    dss_nil)
  (dss_cons (ds_if (dt_cmp (od_eq (Ev.hu192 hr)) (de_n (pv 1)) de_str (nomark _))
    (dss_one (ds_ret (dm_lst (da_cons (de_m (dm_ix (de_n (pv 0)) de_int)) (da_cons (de_m (dm_ix (de_n (pv 0)) de_int)) da_nil)))))
    dss_nil)
  (dss_cons (ds_if (dt_cmp (od_eq (Ev.hu192 hr)) (de_n (pv 1)) de_str (nomark _))
    (dss_one (ds_ret (dm_bty cd_list (by rfl) G.n_list (by decide +kernel) (da_cons (de_m (dm_ix (de_n (pv 0)) de_int)) da_nil))))
    dss_nil)
  (dss_one (ds_ret (dm_bin od_add (de_m (dm_lc (own := [("_law_pair", 2)]) rfl SC.nd (di_any (di_seq (de_m (dm_ix (de_n (pv 0)) de_int)))) (blkOk_by (own := [("_law_pair", 2)]) (N := ["_law_tree", "_law_word", "_law_pair"]) (sc := defScope s__law_parts) (by decide +kernel)) (fun _ _ _ _ _ => (dg_n rfl (pg_name (i := 2) SC.nd rfl (by first | exact .inl rfl | exact .inr rfl)))) (fun _ _ _ _ _ => dts_nil) (fun _ _ _ _ _ => (de_m (dm_ix (de_n (pv 2)) de_int))))) (de_m (dm_lst (da_cons (de_m (dm_ix (de_n (pv 0)) de_int)) da_nil)))))))))))))))
theorem ok__law_shown (F : Fun K "_law_shown" "_law_shown" s__law_shown f fd) (G : Gs w K mg) (C : Cs P w K mg base n call) : FnG P w K mg base (n + 1) f fd ["_law_tree"] (spD (kg0 K mg) 1 (g__law_shown call)) :=
  have SC := sc__law_shown
  fn_ok ["_law_tree", "_law_word", "_law_some", "_law_one", "_law_pairs", "_law_k"] ["_law_tree"] 1 6 (kpl [true]) (b__law_shown call) (g__law_shown call) rfl rfl rfl F SC fun cdv A outer s H E hr =>
  (dss_cons (ds_set (i := 1) SC.nd rfl (by first | exact .inl rfl | exact .inr rfl) rfl (dm_ix (de_n (pv 0)) de_int))
  (dss_cons (ds_if (dt_cmp (od_eq (Ev.hu192 hr)) (de_n (pv 1)) de_str (nomark _))
    (dss_one (ds_ret (dm_ix (de_m (dm_lst (da_cons de_str (da_cons de_str da_nil)))) (de_m (dm_bty cd_int (by rfl) G.n_int (by decide +kernel) (da_cons (de_m (dm_ix (de_n (pv 0)) de_int)) da_nil))))))
    dss_nil)
  (dss_cons (ds_if (dt_cmp (od_in (Ev.hu192 hr)) (de_n (pv 1)) (de_m (dm_tup (da_cons de_str (da_cons de_str da_nil)))) (by with_unfolding_all rfl))
    (dss_one (ds_ret (dm_bty cd_str (by rfl) G.n_str (by decide +kernel) (da_cons (de_m (dm_ix (de_n (pv 0)) de_int)) da_nil))))
    dss_nil)
  (dss_cons (ds_set (i := 2) SC.nd rfl (by first | exact .inl rfl | exact .inr rfl) rfl (dm_lc (own := [("_law_one", 3)]) rfl SC.nd (di_any (di_seq (de_m (dm_call C.c__law_parts hr (by rfl) (da_cons (de_n (pv 0)) da_nil) (many_cons many_nil))))) (blkOk_by (own := [("_law_one", 3)]) (N := ["_law_tree", "_law_word", "_law_some", "_law_one", "_law_pairs", "_law_k"]) (sc := defScope s__law_shown) (by decide +kernel)) (fun _ _ _ _ _ => (dg_n rfl (pg_name (i := 3) SC.nd rfl (by first | exact .inl rfl | exact .inr rfl)))) (fun _ _ _ _ _ => dts_nil) (fun _ _ _ _ _ => (de_m (dm_call C.c__law_shown hr (by rfl) (da_cons (de_n (pv 3)) da_nil) (many_cons many_nil))))))
  (dss_cons (ds_if (dt_cmp (od_eq (Ev.hu192 hr)) (de_n (pv 1)) de_str (nomark _))
    (dss_one (ds_set (i := 2) SC.nd rfl (by first | exact .inl rfl | exact .inr rfl) rfl (dm_bin od_add (de_m (dm_lst (da_cons (de_m (dm_ix (de_n (pv 0)) de_int)) da_nil))) (de_n (pv 2)))))
    (dss_one (ds_if (dt_cmp (od_in (Ev.hu192 hr)) (de_n (pv 1)) (de_m (dm_tup (da_cons de_str (da_cons de_str da_nil)))) (by with_unfolding_all rfl))
    (dss_one (ds_set (i := 2) SC.nd rfl (by first | exact .inl rfl | exact .inr rfl) rfl (dm_bin od_add (de_m (dm_lst (da_cons (de_n (pv 1)) (da_cons (de_m (dm_bty cd_str (by rfl) G.n_str (by decide +kernel) (da_cons (de_m (dm_ix (de_n (pv 0)) de_int)) da_nil))) da_nil)))) (de_n (pv 2)))))
    (dss_one (ds_if (dt_cmp (od_in (Ev.hu192 hr)) (de_n (pv 1)) (de_m (dm_tup (da_cons de_str (da_cons de_str da_nil)))) (by with_unfolding_all rfl))
    (dss_one (ds_set (i := 2) SC.nd rfl (by first | exact .inl rfl | exact .inr rfl) rfl (dm_bin od_add (de_m (dm_lst (da_cons (de_n (pv 1)) (da_cons (de_m (dm_ix (de_n (pv 0)) de_int)) da_nil)))) (de_n (pv 2)))))
    (dss_one (ds_if (dt_cmp (od_eq (Ev.hu192 hr)) (de_n (pv 1)) de_str (nomark _))
    (dss_one (ds_set (i := 2) SC.nd rfl (by first | exact .inl rfl | exact .inr rfl) rfl (dm_lst (da_cons (de_n (pv 1)) (da_cons (de_m (dm_ix (de_n (pv 0)) de_int)) (da_cons (de_m (dm_ix (de_n (pv 2)) de_int)) (da_cons (de_m (dm_ix (de_n (pv 0)) de_int)) (da_cons (de_m (dm_ix (de_n (pv 2)) de_int)) (da_cons (de_m (dm_ix (de_n (pv 2)) de_int)) da_nil)))))))))
    (dss_one (ds_if (dt_cmp (od_eq (Ev.hu192 hr)) (de_n (pv 1)) de_str (nomark _))
    (dss_one (ds_set (i := 2) SC.nd rfl (by first | exact .inl rfl | exact .inr rfl) rfl (dm_lst (da_cons (de_n (pv 1)) (da_cons (de_m (dm_ix (de_n (pv 2)) de_int)) (da_cons (de_m (dm_ix (de_n (pv 0)) de_int)) (da_cons (de_m (dm_ix (de_n (pv 2)) de_int)) da_nil)))))))
    (dss_one (ds_if (dt_cmp (od_eq (Ev.hu192 hr)) (de_n (pv 1)) de_str (nomark _))
    (dss_one (ds_set (i := 2) SC.nd rfl (by first | exact .inl rfl | exact .inr rfl) rfl (dm_bin od_add (de_m (dm_lst (da_cons (de_m (dm_ix (de_n (pv 0)) de_int)) da_nil))) (de_n (pv 2)))))
    (dss_one (ds_if (dt_cmp (od_eq (Ev.hu192 hr)) (de_n (pv 1)) de_str (nomark _))
    (dss_cons (ds_setLc (i := 4) (own := [("_law_k", 5)]) rfl SC.nd rfl rfl rfl (sw_true rfl rfl rfl (by decide +kernel)) (di_any (di_rng1 (by rfl) G.n_range (de_m (dm_blt cd_len (by rfl) G.n_len (by decide +kernel) (da_cons (de_m (dm_ix (de_n (pv 0)) de_int)) da_nil))))) (blkOk_by (own := [("_law_k", 5)]) (N := ["_law_tree", "_law_word", "_law_some", "_law_one", "_law_pairs", "_law_k"]) (sc := defScope s__law_shown) (by decide +kernel)) (fun _ _ _ _ _ => (dg_n rfl (pg_name (i := 5) SC.nd rfl (by first | exact .inl rfl | exact .inr rfl)))) (fun _ _ _ _ _ => dts_nil) (fun _ _ _ _ _ => (de_m (dm_bin od_add (de_m (dm_bin od_add (de_m (dm_bin od_add (de_m (dm_bin od_add de_str (de_m (dm_ix (de_m (dm_ix (de_m (dm_ix (de_n (pv 0)) de_int)) (de_n (pv 5)))) de_int)))) de_str)) (de_m (dm_ix (de_n (pv 2)) (de_n (pv 5)))))) de_str))))
  (dss_one (ds_set (i := 2) SC.nd rfl (by first | exact .inl rfl | exact .inr rfl) rfl (dm_lst (da_cons (de_n (pv 1)) (da_cons (de_m (dm_ix (de_n (pv 0)) de_int)) (da_cons (de_m (dm_bin od_add (de_m (dm_bin od_add de_str (de_m (dm_join de_str (de_n (pv 4)))))) de_str)) (da_cons (de_m (dm_ix (de_n (pv 2)) (de_m (dm_neg de_int)))) da_nil))))))))
    (dss_one (ds_set (i := 2) SC.nd rfl (by first | exact .inl rfl | exact .inr rfl) rfl (dm_bin od_add (de_m (dm_lst (da_cons (de_n (pv 1)) da_nil))) (de_n (pv 2))))))))))))))))))
  (dss_one (ds_ret (dm_bin od_add (de_m (dm_bin od_add de_str (de_m (dm_join de_str (de_n (pv 2)))))) de_str))))))))
theorem ok_law (F : Fun K "law" "law" s_law f fd) (G : Gs w K mg) (C : Cs P w K mg base n call) : FnG P w K mg base (n + 1) f fd ["_law_script"] (spD (kg0 K mg) 1 (g_law call)) :=
  have SC := sc_law
  fn_ok ["_law_script", "_law_bag_here", "_law_words_here", "_law_some", "_law_dues", "_law_turn", "_law_k", "_law_tree", "_law_kept", "_law_found"] ["_law_script"] 1 10 (kpl [true]) (b_law call) (g_law call) rfl rfl rfl F SC fun cdv A outer s H E hr =>
  (dss_cons (ds_set (i := 1) SC.nd rfl (by first | exact .inl rfl | exact .inr rfl) rfl (dm_call C.c__law_bag hr (by rfl) (da_cons (de_n (pv 0)) da_nil) (many_cons many_nil)))
  (dss_cons (ds_set (i := 2) SC.nd rfl (by first | exact .inl rfl | exact .inr rfl) rfl (dm_call C.c__law_words hr (by rfl) (da_cons (de_n (pv 1)) (da_cons de_int da_nil)) (many_cons (many_cons many_nil))))
  (dss_cons (ds_set (i := 3) SC.nd rfl (by first | exact .inl rfl | exact .inr rfl) rfl (dm_lc (own := [("_law_k", 6)]) rfl SC.nd (di_any (di_rng1 (by rfl) G.n_range de_int)) (blkOk_by (own := [("_law_k", 6)]) (N := ["_law_script", "_law_bag_here", "_law_words_here", "_law_some", "_law_dues", "_law_turn", "_law_k", "_law_tree", "_law_kept", "_law_found"]) (sc := defScope s_law) (by decide +kernel)) (fun _ _ _ _ _ => (dg_n rfl (pg_name (i := 6) SC.nd rfl (by first | exact .inl rfl | exact .inr rfl)))) (fun _ _ _ _ _ => dts_nil) (fun _ _ _ _ _ => (de_m (dm_call C.c__law_any hr (by rfl) (da_cons (de_n (pv 1)) (da_cons (de_n (pv 2)) (da_cons (de_m (dm_ix (de_m (dm_lst (da_cons de_int (da_cons de_int (da_cons de_int da_nil))))) (de_m (dm_call C.c__law_take hr (by rfl) (da_cons (de_n (pv 1)) (da_cons de_int da_nil)) (many_cons (many_cons many_nil)))))) (da_cons (de_m (dm_bin od_add de_int (de_m (dm_call C.c__law_take hr (by rfl) (da_cons (de_n (pv 1)) (da_cons de_int da_nil)) (many_cons (many_cons many_nil)))))) da_nil)))) (many_cons (many_cons (many_cons (many_cons many_nil)))))))))
  (dss_cons (ds_expr (dm_app (pv 3) (de_m (dm_tup (da_cons de_str (da_cons (de_m (dm_ix (de_n (pv 2)) de_int)) (da_cons (de_m (dm_tup (da_cons (de_m (dm_tup (da_cons (de_m (dm_ix (de_n (pv 2)) de_int)) (da_cons (de_m (dm_ix (de_n (pv 3)) de_int)) da_nil)))) (da_cons (de_m (dm_tup (da_cons (de_m (dm_ix (de_n (pv 2)) de_int)) (da_cons (de_m (dm_ix (de_n (pv 3)) de_int)) da_nil)))) da_nil)))) (da_cons (de_m (dm_ix (de_n (pv 3)) de_int)) da_nil))))))))
  (dss_cons (ds_set (i := 4) SC.nd rfl (by first | exact .inl rfl | exact .inr rfl) rfl (dm_lc (own := [("_law_tree", 7)]) rfl SC.nd (di_any (di_seq (de_n (pv 3)))) (blkOk_by (own := [("_law_tree", 7)]) (N := ["_law_script", "_law_bag_here", "_law_words_here", "_law_some", "_law_dues", "_law_turn", "_law_k", "_law_tree", "_law_kept", "_law_found"]) (sc := defScope s_law) (by decide +kernel)) (fun _ _ _ _ _ => (dg_n rfl (pg_name (i := 7) SC.nd rfl (by first | exact .inl rfl | exact .inr rfl)))) (fun _ _ _ _ _ => dts_nil) (fun _ _ _ _ _ => (de_m (dm_call C.c__law_shown hr (by rfl) (da_cons (de_n (pv 7)) da_nil) (many_cons many_nil))))))
  (dss_cons (ds_for PassesOwn.never rfl (di_any (di_rng1 (by rfl) G.n_range de_int)) (dg_n rfl (pg_name (i := 5) SC.nd rfl (by first | exact .inl rfl | exact .inr rfl)))
    (dss_one (ds_for PassesOwn.never rfl (di_any (di_rng1 (by rfl) G.n_range de_int)) (dg_n rfl (pg_name (i := 6) SC.nd rfl (by first | exact .inl rfl | exact .inr rfl)))
    (dss_cons (ds_set (i := 8) SC.nd rfl (by first | exact .inl rfl | exact .inr rfl) rfl (dm_blt (cd_repr hr) (by rfl) G.n_repr (by decide +kernel) (da_cons (de_m (dm_ix (de_n (pv 3)) (de_n (pv 6)))) da_nil)))
  (dss_cons (ds_set (i := 9) SC.nd rfl (by first | exact .inl rfl | exact .inr rfl) rfl (dm_call C.c_show_tree hr (by rfl) (da_cons (de_m (dm_ix (de_n (pv 3)) (de_n (pv 6)))) da_nil) (many_cons many_nil)))
  (dss_cons (ds_if (dt_w (dw_or (dt_not (dt_val (dm_blt cd_isi (by rfl) G.n_isinstance (by decide +kernel) (da_cons (de_n (pv 9)) (da_cons (de_c (pe_bltn (by rfl) G.n_str (by decide +kernel) (show RelV (.ty "str") _ from rfl)) fun _ => .ty _) da_nil))))) (dw_or (dt_cmp (od_ne (Ev.hu192 hr)) (de_n (pv 9)) (de_m (dm_ix (de_n (pv 4)) (de_n (pv 6)))) (nomark _)) (dw_or1 (dt_cmp (od_ne (Ev.hu192 hr)) (de_m (dm_blt (cd_repr hr) (by rfl) G.n_repr (by decide +kernel) (da_cons (de_m (dm_ix (de_n (pv 3)) (de_n (pv 6)))) da_nil))) (de_n (pv 8)) (nomark _))))))
    (dss_one (ds_ret (dm_e de_bl)))
    dss_nil)
  (dss_one (ds_if (dt_cmp (od_ne (Ev.hu192 hr)) (de_m (dm_blt (cd_repr hr) (by rfl) G.n_repr (by decide +kernel) (da_cons (de_m (dm_call C.c_read_tree hr (by rfl) (da_cons (de_m (dm_ix (de_n (pv 4)) (de_n (pv 6)))) da_nil) (many_cons many_nil))) da_nil))) (de_n (pv 8)) (nomark _))
    (dss_one (ds_ret (dm_e de_bl)))
    dss_nil))))))))
  (dss_one (ds_ret (dm_blt (cd_all rfl) (by rfl) G.n_all (by decide +kernel) (da_cons (de_m (dm_lc (own := [("_law_tree", 7)]) rfl SC.nd (di_any (di_seq (de_n (pv 3)))) (blkOk_by (own := [("_law_tree", 7)]) (N := ["_law_script", "_law_bag_here", "_law_words_here", "_law_some", "_law_dues", "_law_turn", "_law_k", "_law_tree", "_law_kept", "_law_found"]) (sc := defScope s_law) (by decide +kernel)) (fun _ _ _ _ _ => (dg_n rfl (pg_name (i := 7) SC.nd rfl (by first | exact .inl rfl | exact .inr rfl)))) (fun _ _ _ _ _ => dts_nil) (fun _ _ _ _ _ => (de_m (dm_cmp (od_eq (Ev.hu192 hr)) (de_m (dm_cmp (od_eq (Ev.hu192 hr)) (de_m (dm_blt (cd_repr hr) (by rfl) G.n_repr (by decide +kernel) (da_cons (de_m (dm_ix (de_n (pv 3)) de_int)) da_nil))) (de_m (dm_blt (cd_repr hr) (by rfl) G.n_repr (by decide +kernel) (da_cons (de_n (pv 7)) da_nil))) (nomark _))) (de_m (dm_cmp (od_eq (Ev.hu192 hr)) (de_m (dm_ix (de_n (pv 4)) de_int)) (de_m (dm_call C.c__law_shown hr (by rfl) (da_cons (de_n (pv 7)) da_nil) (many_cons many_nil))) (nomark _))) (nomark _)))))) da_nil))))))))))
theorem ok_Reading____init__ (F : Fun K "__init__" "Reading.__init__" s_Reading____init__ f fd) (G : Gs w K mg) (C : Cs P w K mg base n call) : FnG P w K mg base (n + 1) f fd ["self", "words"] (spD (kg0 K mg) 2 (g_Reading____init__ call)) :=
  have SC := sc_Reading____init__
  fn_ok ["self", "words"] ["self", "words"] 2 2 (kpl [true, true]) (b_Reading____init__ call) (g_Reading____init__ call) rfl rfl rfl F SC fun cdv A outer s H E hr =>
  (dss_cons (ds_setF (dm_e (de_n (pv 1))) (pv 0) G.a_Reading_words)
  (dss_one (ds_setF (dm_e de_int) (pv 0) G.a_Reading_read)))
theorem ok_Reading__ahead (F : Fun K "ahead" "Reading.ahead" s_Reading__ahead f fd) (G : Gs w K mg) (C : Cs P w K mg base n call) : FnG P w K mg base (n + 1) f fd ["self"] (spD (kg0 K mg) 1 (g_Reading__ahead call)) :=
  have SC := sc_Reading__ahead
  fn_ok ["self"] ["self"] 1 1 (kpl [true]) (b_Reading__ahead call) (g_Reading__ahead call) rfl rfl rfl F SC fun cdv A outer s H E hr =>
  (dss_cons (ds_if (dt_cmp (od_eq (Ev.hu192 hr)) (de_fld (de_n (pv 0)) G.a_Reading_read) (de_m (dm_blt cd_len (by rfl) G.n_len (by decide +kernel) (da_cons (de_fld (de_n (pv 0)) G.a_Reading_words) da_nil))) (nomark _))
    (dss_one (ds_ret (dm_e de_str)))
    dss_nil)
  (dss_one (ds_ret (dm_ix (de_fld (de_n (pv 0)) G.a_Reading_words) (de_fld (de_n (pv 0)) G.a_Reading_read)))))
theorem ok_Reading__taken (F : Fun K "taken" "Reading.taken" s_Reading__taken f fd) (G : Gs w K mg) (C : Cs P w K mg base n call) : FnG P w K mg base (n + 1) f fd ["self"] (spD (kg0 K mg) 1 (g_Reading__taken call)) :=
  have SC := sc_Reading__taken
  fn_ok ["self"] ["self"] 1 1 (kpl [true]) (b_Reading__taken call) (g_Reading__taken call) rfl rfl rfl F SC fun cdv A outer s H E hr =>
  (dss_cons (ds_if (dt_cmp (od_eq (Ev.hu192 hr)) (de_fld (de_n (pv 0)) G.a_Reading_read) (de_m (dm_blt cd_len (by rfl) G.n_len (by decide +kernel) (da_cons (de_fld (de_n (pv 0)) G.a_Reading_words) da_nil))) (nomark _))
    (dss_one ds_no)
    dss_nil)
  (dss_cons (ds_augFAdd (pv 0) G.a_Reading_read de_int)
  (dss_one (ds_ret (dm_ix (de_fld (de_n (pv 0)) G.a_Reading_words) (de_m (dm_bin od_sub (de_fld (de_n (pv 0)) G.a_Reading_read) de_int)))))))
theorem ok_Reading__need (F : Fun K "need" "Reading.need" s_Reading__need f fd) (G : Gs w K mg) (C : Cs P w K mg base n call) : FnG P w K mg base (n + 1) f fd ["self", "word"] (spD (kg0 K mg) 2 (g_Reading__need call)) :=
  have SC := sc_Reading__need
  fn_ok ["self", "word"] ["self", "word"] 2 2 (kpl [true, true]) (b_Reading__need call) (g_Reading__need call) rfl rfl rfl F SC fun cdv A outer s H E hr =>
  (dss_one (ds_if (dt_cmp (od_ne (Ev.hu192 hr)) (de_m (dm_mth0 (de_n (pv 0)) C.c_Reading__taken hr)) (de_n (pv 1)) (nomark _))
    (dss_one ds_no)
    dss_nil))
end
structure Fs (w : World) (K : PySem.W.Frag) (mg : Str → Option Value) : Prop where
  G : Gs w K mg
  f_shown_parts : ∃ f fd, Fun K "shown_parts" "shown_parts" s_shown_parts f fd ∧ mg "shown_parts" = some (.ref f)
  f_show_tree : ∃ f fd, Fun K "show_tree" "show_tree" s_show_tree f fd ∧ mg "show_tree" = some (.ref f)
  f_is_whole : ∃ f fd, Fun K "is_whole" "is_whole" s_is_whole f fd ∧ mg "is_whole" = some (.ref f)
  f_is_from_to : ∃ f fd, Fun K "is_from_to" "is_from_to" s_is_from_to f fd ∧ mg "is_from_to" = some (.ref f)
  f_stem_of : ∃ f fd, Fun K "stem_of" "stem_of" s_stem_of f fd ∧ mg "stem_of" = some (.ref f)
  f_is_word : ∃ f fd, Fun K "is_word" "is_word" s_is_word f fd ∧ mg "is_word" = some (.ref f)
  f_is_row : ∃ f fd, Fun K "is_row" "is_row" s_is_row f fd ∧ mg "is_row" = some (.ref f)
  f_is_bare : ∃ f fd, Fun K "is_bare" "is_bare" s_is_bare f fd ∧ mg "is_bare" = some (.ref f)
  f_are_pairs : ∃ f fd, Fun K "are_pairs" "are_pairs" s_are_pairs f fd ∧ mg "are_pairs" = some (.ref f)
  f_has_words : ∃ f fd, Fun K "has_words" "has_words" s_has_words f fd ∧ mg "has_words" = some (.ref f)
  f_is_node : ∃ f fd, Fun K "is_node" "is_node" s_is_node f fd ∧ mg "is_node" = some (.ref f)
  f_parts_of : ∃ f fd, Fun K "parts_of" "parts_of" s_parts_of f fd ∧ mg "parts_of" = some (.ref f)
  f_counted_parts : ∃ f fd, Fun K "counted_parts" "counted_parts" s_counted_parts f fd ∧ mg "counted_parts" = some (.ref f)
  f_is_tree : ∃ f fd, Fun K "is_tree" "is_tree" s_is_tree f fd ∧ mg "is_tree" = some (.ref f)
  f_words_in : ∃ f fd, Fun K "words_in" "words_in" s_words_in f fd ∧ mg "words_in" = some (.ref f)
  f_number_in : ∃ f fd, Fun K "number_in" "number_in" s_number_in f fd ∧ mg "number_in" = some (.ref f)
  f_read_some : ∃ f fd, Fun K "read_some" "read_some" s_read_some f fd ∧ mg "read_some" = some (.ref f)
  f_read_pairs : ∃ f fd, Fun K "read_pairs" "read_pairs" s_read_pairs f fd ∧ mg "read_pairs" = some (.ref f)
  f_read_inside : ∃ f fd, Fun K "read_inside" "read_inside" s_read_inside f fd ∧ mg "read_inside" = some (.ref f)
  f_read_one : ∃ f fd, Fun K "read_one" "read_one" s_read_one f fd ∧ mg "read_one" = some (.ref f)
  f_read_tree : ∃ f fd, Fun K "read_tree" "read_tree" s_read_tree f fd ∧ mg "read_tree" = some (.ref f)
  f__law_bag : ∃ f fd, Fun K "_law_bag" "_law_bag" s__law_bag f fd ∧ mg "_law_bag" = some (.ref f)
  f__law_take : ∃ f fd, Fun K "_law_take" "_law_take" s__law_take f fd ∧ mg "_law_take" = some (.ref f)
  f__law_words : ∃ f fd, Fun K "_law_words" "_law_words" s__law_words f fd ∧ mg "_law_words" = some (.ref f)
  f__law_plain : ∃ f fd, FunV K "_law_plain" "_law_plain" s__law_plain f fd ∧ Binds K fd ["_law_bag_here", "_law_scope", "_law_mild"] [] ∧ BindD K fd ["_law_bag_here", "_law_scope", "_law_mild"] [(.int 0)] ∧ mg "_law_plain" = some (.ref f)
  f__law_node : ∃ f fd, FunV K "_law_node" "_law_node" s__law_node f fd ∧ Binds K fd ["_law_bag_here", "_law_way", "_law_head", "_law_some", "_law_two", "_law_mild"] [] ∧ BindD K fd ["_law_bag_here", "_law_way", "_law_head", "_law_some", "_law_two", "_law_mild"] [(.int 0)] ∧ mg "_law_node" = some (.ref f)
  f__law_any : ∃ f fd, Fun K "_law_any" "_law_any" s__law_any f fd ∧ mg "_law_any" = some (.ref f)
  f__law_parts : ∃ f fd, Fun K "_law_parts" "_law_parts" s__law_parts f fd ∧ mg "_law_parts" = some (.ref f)
  f__law_shown : ∃ f fd, Fun K "_law_shown" "_law_shown" s__law_shown f fd ∧ mg "_law_shown" = some (.ref f)
  f_law : ∃ f fd, Fun K "law" "law" s_law f fd ∧ mg "law" = some (.ref f)
  f_Reading____init__ : ∃ C f fd, Fun K "__init__" "Reading.__init__" s_Reading____init__ f fd ∧ mg "Reading" = some (.ref C) ∧ Mk K C f
  f_Reading__ahead : ∃ C f fd, Fun K "ahead" "Reading.ahead" s_Reading__ahead f fd ∧ mg "Reading" = some (.ref C) ∧ Cls K C ∧ Meth K C "ahead" f
  f_Reading__taken : ∃ C f fd, Fun K "taken" "Reading.taken" s_Reading__taken f fd ∧ mg "Reading" = some (.ref C) ∧ Cls K C ∧ Meth K C "taken" f
  f_Reading__need : ∃ C f fd, Fun K "need" "Reading.need" s_Reading__need f fd ∧ mg "Reading" = some (.ref C) ∧ Cls K C ∧ Meth K C "need" f
section
variable {P : Program} {w : World} {K : PySem.W.Frag} {mg : Str → Option Value} {base : Heap}
theorem bd_shown_parts {f : Addr} {fd : FuncData} (F : Fun K "shown_parts" "shown_parts" s_shown_parts f fd) : Binds K fd ["tree"] [] := F.binds (ps := ["tree"]) fun _ _ _ _ _ _ us hl => match us, hl with | [_], _ => rfl
theorem bd_show_tree {f : Addr} {fd : FuncData} (F : Fun K "show_tree" "show_tree" s_show_tree f fd) : Binds K fd ["tree"] [] := F.binds (ps := ["tree"]) fun _ _ _ _ _ _ us hl => match us, hl with | [_], _ => rfl
theorem bd_is_whole {f : Addr} {fd : FuncData} (F : Fun K "is_whole" "is_whole" s_is_whole f fd) : Binds K fd ["thing"] [] := F.binds (ps := ["thing"]) fun _ _ _ _ _ _ us hl => match us, hl with | [_], _ => rfl
theorem bd_is_from_to {f : Addr} {fd : FuncData} (F : Fun K "is_from_to" "is_from_to" s_is_from_to f fd) : Binds K fd ["thing", "least", "most"] [] := F.binds (ps := ["thing", "least", "most"]) fun _ _ _ _ _ _ us hl => match us, hl with | [_, _, _], _ => rfl
theorem bd_stem_of {f : Addr} {fd : FuncData} (F : Fun K "stem_of" "stem_of" s_stem_of f fd) : Binds K fd ["word"] [] := F.binds (ps := ["word"]) fun _ _ _ _ _ _ us hl => match us, hl with | [_], _ => rfl
theorem bd_is_word {f : Addr} {fd : FuncData} (F : Fun K "is_word" "is_word" s_is_word f fd) : Binds K fd ["thing"] [] := F.binds (ps := ["thing"]) fun _ _ _ _ _ _ us hl => match us, hl with | [_], _ => rfl
theorem bd_is_row {f : Addr} {fd : FuncData} (F : Fun K "is_row" "is_row" s_is_row f fd) : Binds K fd ["thing"] [] := F.binds (ps := ["thing"]) fun _ _ _ _ _ _ us hl => match us, hl with | [_], _ => rfl
theorem bd_is_bare {f : Addr} {fd : FuncData} (F : Fun K "is_bare" "is_bare" s_is_bare f fd) : Binds K fd ["thing"] [] := F.binds (ps := ["thing"]) fun _ _ _ _ _ _ us hl => match us, hl with | [_], _ => rfl
theorem bd_are_pairs {f : Addr} {fd : FuncData} (F : Fun K "are_pairs" "are_pairs" s_are_pairs f fd) : Binds K fd ["thing"] [] := F.binds (ps := ["thing"]) fun _ _ _ _ _ _ us hl => match us, hl with | [_], _ => rfl
theorem bd_has_words {f : Addr} {fd : FuncData} (F : Fun K "has_words" "has_words" s_has_words f fd) : Binds K fd ["thing"] [] := F.binds (ps := ["thing"]) fun _ _ _ _ _ _ us hl => match us, hl with | [_], _ => rfl
theorem bd_is_node {f : Addr} {fd : FuncData} (F : Fun K "is_node" "is_node" s_is_node f fd) : Binds K fd ["thing"] [] := F.binds (ps := ["thing"]) fun _ _ _ _ _ _ us hl => match us, hl with | [_], _ => rfl
theorem bd_parts_of {f : Addr} {fd : FuncData} (F : Fun K "parts_of" "parts_of" s_parts_of f fd) : Binds K fd ["tree"] [] := F.binds (ps := ["tree"]) fun _ _ _ _ _ _ us hl => match us, hl with | [_], _ => rfl
theorem bd_counted_parts {f : Addr} {fd : FuncData} (F : Fun K "counted_parts" "counted_parts" s_counted_parts f fd) : Binds K fd ["tree"] [] := F.binds (ps := ["tree"]) fun _ _ _ _ _ _ us hl => match us, hl with | [_], _ => rfl
theorem bd_is_tree {f : Addr} {fd : FuncData} (F : Fun K "is_tree" "is_tree" s_is_tree f fd) : Binds K fd ["thing"] [] := F.binds (ps := ["thing"]) fun _ _ _ _ _ _ us hl => match us, hl with | [_], _ => rfl
theorem bd_words_in {f : Addr} {fd : FuncData} (F : Fun K "words_in" "words_in" s_words_in f fd) : Binds K fd ["text"] [] := F.binds (ps := ["text"]) fun _ _ _ _ _ _ us hl => match us, hl with | [_], _ => rfl
theorem bd_number_in {f : Addr} {fd : FuncData} (F : Fun K "number_in" "number_in" s_number_in f fd) : Binds K fd ["word"] [] := F.binds (ps := ["word"]) fun _ _ _ _ _ _ us hl => match us, hl with | [_], _ => rfl
theorem bd_read_some {f : Addr} {fd : FuncData} (F : Fun K "read_some" "read_some" s_read_some f fd) : Binds K fd ["reading", "deep"] [] := F.binds (ps := ["reading", "deep"]) fun _ _ _ _ _ _ us hl => match us, hl with | [_, _], _ => rfl
theorem bd_read_pairs {f : Addr} {fd : FuncData} (F : Fun K "read_pairs" "read_pairs" s_read_pairs f fd) : Binds K fd ["reading", "deep"] [] := F.binds (ps := ["reading", "deep"]) fun _ _ _ _ _ _ us hl => match us, hl with | [_, _], _ => rfl
theorem bd_read_inside {f : Addr} {fd : FuncData} (F : Fun K "read_inside" "read_inside" s_read_inside f fd) : Binds K fd ["reading", "word", "deep"] [] := F.binds (ps := ["reading", "word", "deep"]) fun _ _ _ _ _ _ us hl => match us, hl with | [_, _, _], _ => rfl
theorem bd_read_one {f : Addr} {fd : FuncData} (F : Fun K "read_one" "read_one" s_read_one f fd) : Binds K fd ["reading", "deep"] [] := F.binds (ps := ["reading", "deep"]) fun _ _ _ _ _ _ us hl => match us, hl with | [_, _], _ => rfl
theorem bd_read_tree {f : Addr} {fd : FuncData} (F : Fun K "read_tree" "read_tree" s_read_tree f fd) : Binds K fd ["text"] [] := F.binds (ps := ["text"]) fun _ _ _ _ _ _ us hl => match us, hl with | [_], _ => rfl
theorem bd__law_bag {f : Addr} {fd : FuncData} (F : Fun K "_law_bag" "_law_bag" s__law_bag f fd) : Binds K fd ["_law_script"] [] := F.binds (ps := ["_law_script"]) fun _ _ _ _ _ _ us hl => match us, hl with | [_], _ => rfl
theorem bd__law_take {f : Addr} {fd : FuncData} (F : Fun K "_law_take" "_law_take" s__law_take f fd) : Binds K fd ["_law_bag_here", "_law_many"] [] := F.binds (ps := ["_law_bag_here", "_law_many"]) fun _ _ _ _ _ _ us hl => match us, hl with | [_, _], _ => rfl
theorem bd__law_words {f : Addr} {fd : FuncData} (F : Fun K "_law_words" "_law_words" s__law_words f fd) : Binds K fd ["_law_bag_here", "_law_many"] [] := F.binds (ps := ["_law_bag_here", "_law_many"]) fun _ _ _ _ _ _ us hl => match us, hl with | [_, _], _ => rfl
theorem bd__law_any {f : Addr} {fd : FuncData} (F : Fun K "_law_any" "_law_any" s__law_any f fd) : Binds K fd ["_law_bag_here", "_law_words_here", "_law_room", "_law_deep"] [] := F.binds (ps := ["_law_bag_here", "_law_words_here", "_law_room", "_law_deep"]) fun _ _ _ _ _ _ us hl => match us, hl with | [_, _, _, _], _ => rfl
theorem bd__law_parts {f : Addr} {fd : FuncData} (F : Fun K "_law_parts" "_law_parts" s__law_parts f fd) : Binds K fd ["_law_tree"] [] := F.binds (ps := ["_law_tree"]) fun _ _ _ _ _ _ us hl => match us, hl with | [_], _ => rfl
theorem bd__law_shown {f : Addr} {fd : FuncData} (F : Fun K "_law_shown" "_law_shown" s__law_shown f fd) : Binds K fd ["_law_tree"] [] := F.binds (ps := ["_law_tree"]) fun _ _ _ _ _ _ us hl => match us, hl with | [_], _ => rfl
theorem bd_law {f : Addr} {fd : FuncData} (F : Fun K "law" "law" s_law f fd) : Binds K fd ["_law_script"] [] := F.binds (ps := ["_law_script"]) fun _ _ _ _ _ _ us hl => match us, hl with | [_], _ => rfl
theorem bd_Reading____init__ {f : Addr} {fd : FuncData} (F : Fun K "__init__" "Reading.__init__" s_Reading____init__ f fd) : Binds K fd ["self", "words"] [] := F.binds (ps := ["self", "words"]) fun _ _ _ _ _ _ us hl => match us, hl with | [_, _], _ => rfl
theorem bd_Reading__ahead {f : Addr} {fd : FuncData} (F : Fun K "ahead" "Reading.ahead" s_Reading__ahead f fd) : Binds K fd ["self"] [] := F.binds (ps := ["self"]) fun _ _ _ _ _ _ us hl => match us, hl with | [_], _ => rfl
theorem bd_Reading__taken {f : Addr} {fd : FuncData} (F : Fun K "taken" "Reading.taken" s_Reading__taken f fd) : Binds K fd ["self"] [] := F.binds (ps := ["self"]) fun _ _ _ _ _ _ us hl => match us, hl with | [_], _ => rfl
theorem bd_Reading__need {f : Addr} {fd : FuncData} (F : Fun K "need" "Reading.need" s_Reading__need f fd) : Binds K fd ["self", "word"] [] := F.binds (ps := ["self", "word"]) fun _ _ _ _ _ _ us hl => match us, hl with | [_, _], _ => rfl
theorem cs (T : Fs w K mg) : ∀ n, Cs P w K mg base n (den n)
  | 0 => {
    c_shown_parts := let ⟨_, _, F, m⟩ := T.f_shown_parts; fnD_zero F m (bd_shown_parts F)
    c_show_tree := let ⟨_, _, F, m⟩ := T.f_show_tree; fnD_zero F m (bd_show_tree F)
    c_is_whole := let ⟨_, _, F, m⟩ := T.f_is_whole; fnD_zero F m (bd_is_whole F)
    c_is_from_to := let ⟨_, _, F, m⟩ := T.f_is_from_to; fnD_zero F m (bd_is_from_to F)
    c_stem_of := let ⟨_, _, F, m⟩ := T.f_stem_of; fnD_zero F m (bd_stem_of F)
    c_is_word := let ⟨_, _, F, m⟩ := T.f_is_word; fnD_zero F m (bd_is_word F)
    c_is_row := let ⟨_, _, F, m⟩ := T.f_is_row; fnD_zero F m (bd_is_row F)
    c_is_bare := let ⟨_, _, F, m⟩ := T.f_is_bare; fnD_zero F m (bd_is_bare F)
    c_are_pairs := let ⟨_, _, F, m⟩ := T.f_are_pairs; fnD_zero F m (bd_are_pairs F)
    c_has_words := let ⟨_, _, F, m⟩ := T.f_has_words; fnD_zero F m (bd_has_words F)
    c_is_node := let ⟨_, _, F, m⟩ := T.f_is_node; fnD_zero F m (bd_is_node F)
    c_parts_of := let ⟨_, _, F, m⟩ := T.f_parts_of; fnD_zero F m (bd_parts_of F)
    c_counted_parts := let ⟨_, _, F, m⟩ := T.f_counted_parts; fnD_zero F m (bd_counted_parts F)
    c_is_tree := let ⟨_, _, F, m⟩ := T.f_is_tree; fnD_zero F m (bd_is_tree F)
    c_words_in := let ⟨_, _, F, m⟩ := T.f_words_in; fnD_zero F m (bd_words_in F)
    c_number_in := let ⟨_, _, F, m⟩ := T.f_number_in; fnD_zero F m (bd_number_in F)
    c_read_some := let ⟨_, _, F, m⟩ := T.f_read_some; fnD_zero F m (bd_read_some F)
    c_read_pairs := let ⟨_, _, F, m⟩ := T.f_read_pairs; fnD_zero F m (bd_read_pairs F)
    c_read_inside := let ⟨_, _, F, m⟩ := T.f_read_inside; fnD_zero F m (bd_read_inside F)
    c_read_one := let ⟨_, _, F, m⟩ := T.f_read_one; fnD_zero F m (bd_read_one F)
    c_read_tree := let ⟨_, _, F, m⟩ := T.f_read_tree; fnD_zero F m (bd_read_tree F)
    c__law_bag := let ⟨_, _, F, m⟩ := T.f__law_bag; fnD_zero F m (bd__law_bag F)
    c__law_take := let ⟨_, _, F, m⟩ := T.f__law_take; fnD_zero F m (bd__law_take F)
    c__law_words := let ⟨_, _, F, m⟩ := T.f__law_words; fnD_zero F m (bd__law_words F)
    c__law_plain := let ⟨_, _, F, b, _, m⟩ := T.f__law_plain; fnD_zeroV F m b
    d__law_plain := let ⟨_, _, F, _, d, m⟩ := T.f__law_plain; fnDd_zero F m d
    c__law_node := let ⟨_, _, F, b, _, m⟩ := T.f__law_node; fnD_zeroV F m b
    d__law_node := let ⟨_, _, F, _, d, m⟩ := T.f__law_node; fnDd_zero F m d
    c__law_any := let ⟨_, _, F, m⟩ := T.f__law_any; fnD_zero F m (bd__law_any F)
    c__law_parts := let ⟨_, _, F, m⟩ := T.f__law_parts; fnD_zero F m (bd__law_parts F)
    c__law_shown := let ⟨_, _, F, m⟩ := T.f__law_shown; fnD_zero F m (bd__law_shown F)
    c_law := let ⟨_, _, F, m⟩ := T.f_law; fnD_zero F m (bd_law F)
    n_Reading := let ⟨_, _, _, F, m, hm⟩ := T.f_Reading____init__; fnN_zero F m hm (bd_Reading____init__ F)
    i_Reading := fnI_zero
    c_Reading__ahead := let ⟨_, _, _, F, m, hc, hm⟩ := T.f_Reading__ahead; fnM_zero F m hc hm (bd_Reading__ahead F)
    c_Reading__taken := let ⟨_, _, _, F, m, hc, hm⟩ := T.f_Reading__taken; fnM_zero F m hc hm (bd_Reading__taken F)
    c_Reading__need := let ⟨_, _, _, F, m, hc, hm⟩ := T.f_Reading__need; fnM_zero F m hc hm (bd_Reading__need F)
  }
  | n + 1 => {
    c_shown_parts := let ⟨_, _, F, m⟩ := T.f_shown_parts; ⟨_, _, _, rfl, den_shown_parts n ▸ ok_shown_parts F T.G (cs T n), m, F.kp, bd_shown_parts F⟩
    c_show_tree := let ⟨_, _, F, m⟩ := T.f_show_tree; ⟨_, _, _, rfl, den_show_tree n ▸ ok_show_tree F T.G (cs T n), m, F.kp, bd_show_tree F⟩
    c_is_whole := let ⟨_, _, F, m⟩ := T.f_is_whole; ⟨_, _, _, rfl, den_is_whole n ▸ ok_is_whole F T.G (cs T n), m, F.kp, bd_is_whole F⟩
    c_is_from_to := let ⟨_, _, F, m⟩ := T.f_is_from_to; ⟨_, _, _, rfl, den_is_from_to n ▸ ok_is_from_to F T.G (cs T n), m, F.kp, bd_is_from_to F⟩
    c_stem_of := let ⟨_, _, F, m⟩ := T.f_stem_of; ⟨_, _, _, rfl, den_stem_of n ▸ ok_stem_of F T.G (cs T n), m, F.kp, bd_stem_of F⟩
    c_is_word := let ⟨_, _, F, m⟩ := T.f_is_word; ⟨_, _, _, rfl, den_is_word n ▸ ok_is_word F T.G (cs T n), m, F.kp, bd_is_word F⟩
    c_is_row := let ⟨_, _, F, m⟩ := T.f_is_row; ⟨_, _, _, rfl, den_is_row n ▸ ok_is_row F T.G (cs T n), m, F.kp, bd_is_row F⟩
    c_is_bare := let ⟨_, _, F, m⟩ := T.f_is_bare; ⟨_, _, _, rfl, den_is_bare n ▸ ok_is_bare F T.G (cs T n), m, F.kp, bd_is_bare F⟩
    c_are_pairs := let ⟨_, _, F, m⟩ := T.f_are_pairs; ⟨_, _, _, rfl, den_are_pairs n ▸ ok_are_pairs F T.G (cs T n), m, F.kp, bd_are_pairs F⟩
    c_has_words := let ⟨_, _, F, m⟩ := T.f_has_words; ⟨_, _, _, rfl, den_has_words n ▸ ok_has_words F T.G (cs T n), m, F.kp, bd_has_words F⟩
    c_is_node := let ⟨_, _, F, m⟩ := T.f_is_node; ⟨_, _, _, rfl, den_is_node n ▸ ok_is_node F T.G (cs T n), m, F.kp, bd_is_node F⟩
    c_parts_of := let ⟨_, _, F, m⟩ := T.f_parts_of; ⟨_, _, _, rfl, den_parts_of n ▸ ok_parts_of F T.G (cs T n), m, F.kp, bd_parts_of F⟩
    c_counted_parts := let ⟨_, _, F, m⟩ := T.f_counted_parts; ⟨_, _, _, rfl, den_counted_parts n ▸ ok_counted_parts F T.G (cs T n), m, F.kp, bd_counted_parts F⟩
    c_is_tree := let ⟨_, _, F, m⟩ := T.f_is_tree; ⟨_, _, _, rfl, den_is_tree n ▸ ok_is_tree F T.G (cs T n), m, F.kp, bd_is_tree F⟩
    c_words_in := let ⟨_, _, F, m⟩ := T.f_words_in; ⟨_, _, _, rfl, den_words_in n ▸ ok_words_in F T.G (cs T n), m, F.kp, bd_words_in F⟩
    c_number_in := let ⟨_, _, F, m⟩ := T.f_number_in; ⟨_, _, _, rfl, den_number_in n ▸ ok_number_in F T.G (cs T n), m, F.kp, bd_number_in F⟩
    c_read_some := let ⟨_, _, F, m⟩ := T.f_read_some; ⟨_, _, _, rfl, den_read_some n ▸ ok_read_some F T.G (cs T n), m, F.kp, bd_read_some F⟩
    c_read_pairs := let ⟨_, _, F, m⟩ := T.f_read_pairs; ⟨_, _, _, rfl, den_read_pairs n ▸ ok_read_pairs F T.G (cs T n), m, F.kp, bd_read_pairs F⟩
    c_read_inside := let ⟨_, _, F, m⟩ := T.f_read_inside; ⟨_, _, _, rfl, den_read_inside n ▸ ok_read_inside F T.G (cs T n), m, F.kp, bd_read_inside F⟩
    c_read_one := let ⟨_, _, F, m⟩ := T.f_read_one; ⟨_, _, _, rfl, den_read_one n ▸ ok_read_one F T.G (cs T n), m, F.kp, bd_read_one F⟩
    c_read_tree := let ⟨_, _, F, m⟩ := T.f_read_tree; ⟨_, _, _, rfl, den_read_tree n ▸ ok_read_tree F T.G (cs T n), m, F.kp, bd_read_tree F⟩
    c__law_bag := let ⟨_, _, F, m⟩ := T.f__law_bag; ⟨_, _, _, rfl, den__law_bag n ▸ ok__law_bag F T.G (cs T n), m, F.kp, bd__law_bag F⟩
    c__law_take := let ⟨_, _, F, m⟩ := T.f__law_take; ⟨_, _, _, rfl, den__law_take n ▸ ok__law_take F T.G (cs T n), m, F.kp, bd__law_take F⟩
    c__law_words := let ⟨_, _, F, m⟩ := T.f__law_words; ⟨_, _, _, rfl, den__law_words n ▸ ok__law_words F T.G (cs T n), m, F.kp, bd__law_words F⟩
    c__law_plain := let ⟨_, _, F, b, _, m⟩ := T.f__law_plain; ⟨_, _, _, rfl, den__law_plain n ▸ ok__law_plain F T.G (cs T n), m, F.kp, b⟩
    d__law_plain := let ⟨_, _, F, _, d, m⟩ := T.f__law_plain; ⟨_, _, _, rfl, den__law_plain n ▸ ok__law_plain F T.G (cs T n), m, F.kp, d⟩
    c__law_node := let ⟨_, _, F, b, _, m⟩ := T.f__law_node; ⟨_, _, _, rfl, den__law_node n ▸ ok__law_node F T.G (cs T n), m, F.kp, b⟩
    d__law_node := let ⟨_, _, F, _, d, m⟩ := T.f__law_node; ⟨_, _, _, rfl, den__law_node n ▸ ok__law_node F T.G (cs T n), m, F.kp, d⟩
    c__law_any := let ⟨_, _, F, m⟩ := T.f__law_any; ⟨_, _, _, rfl, den__law_any n ▸ ok__law_any F T.G (cs T n), m, F.kp, bd__law_any F⟩
    c__law_parts := let ⟨_, _, F, m⟩ := T.f__law_parts; ⟨_, _, _, rfl, den__law_parts n ▸ ok__law_parts F T.G (cs T n), m, F.kp, bd__law_parts F⟩
    c__law_shown := let ⟨_, _, F, m⟩ := T.f__law_shown; ⟨_, _, _, rfl, den__law_shown n ▸ ok__law_shown F T.G (cs T n), m, F.kp, bd__law_shown F⟩
    c_law := let ⟨_, _, F, m⟩ := T.f_law; ⟨_, _, _, rfl, den_law n ▸ ok_law F T.G (cs T n), m, F.kp, bd_law F⟩
    n_Reading := let ⟨_, _, _, F, m, hm⟩ := T.f_Reading____init__; ⟨_, _, _, _, m, hm, rfl, den_Reading____init__ n ▸ ok_Reading____init__ F T.G (cs T n), bd_Reading____init__ F⟩
    i_Reading := den_Reading n ▸ (cs T n).n_Reading.maker
    c_Reading__ahead := let ⟨_, _, _, F, m, hc, hm⟩ := T.f_Reading__ahead; ⟨_, _, _, _, m, hc, hm, rfl, den_Reading__ahead n ▸ ok_Reading__ahead F T.G (cs T n), bd_Reading__ahead F⟩
    c_Reading__taken := let ⟨_, _, _, F, m, hc, hm⟩ := T.f_Reading__taken; ⟨_, _, _, _, m, hc, hm, rfl, den_Reading__taken n ▸ ok_Reading__taken F T.G (cs T n), bd_Reading__taken F⟩
    c_Reading__need := let ⟨_, _, _, F, m, hc, hm⟩ := T.f_Reading__need; ⟨_, _, _, _, m, hc, hm, rfl, den_Reading__need n ▸ ok_Reading__need F T.G (cs T n), bd_Reading__need F⟩
  }
end
theorem all_mk {l : PySem.W.OpenLaw} {w : World} {K : PySem.W.Frag} {h : Heap} {mg : Str → Option Value} {fa : Addr} {N : Nat} (X : K.In h) (G : h.Ns mainGlobals mg) (hfa : mg "law" = some (.ref fa))
    {C0 : Addr} (aC0 : PySem.W.nsIn K mainGlobals "Reading" = some (some (.ref C0))) (kC0 : PySem.W.keepIn K (.ref C0) = true) (pg0 : PySem.W.plainGet K C0 Str.empty = true) (hd0 : PySem.W.hasDictIn K C0 = true) (po0 : PySem.W.plainOver K C0 = true) (sa0 : PySem.W.findIn K (.ref C0) "__setattr__" = some (some (.builtin "object.__setattr__"))) (mk0 : PySem.W.makesIn K C0 = true)
    (na0_read : PySem.W.findIn K (.ref C0) "read" = some none)
    (na0_words : PySem.W.findIn K (.ref C0) "words" = some none)
    {f1 : Addr} {od1 an1 : Option Addr} {sl1 : Array (Option Value)} {oc1 kV1 dc1 pm1 cd1 ct1 : Value}
    (a1 : PySem.W.nsIn K mainGlobals "shown_parts" = some (some (.ref f1))) (l1 : K.lookup f1 = some ⟨oc1, od1, .func (PySem.W.fnOf "shown_parts" "shown_parts" (defArgs s_shown_parts) (defBody s_shown_parts) (defScope s_shown_parts) .none kV1 dc1 pm1 an1 cd1 ct1), sl1⟩) (c1 : PySem.W.codeIn K cd1 "shown_parts" = true) (k1 : PySem.W.keepIn K (.ref f1) = true)
    {f2 : Addr} {od2 an2 : Option Addr} {sl2 : Array (Option Value)} {oc2 kV2 dc2 pm2 cd2 ct2 : Value}
    (a2 : PySem.W.nsIn K mainGlobals "show_tree" = some (some (.ref f2))) (l2 : K.lookup f2 = some ⟨oc2, od2, .func (PySem.W.fnOf "show_tree" "show_tree" (defArgs s_show_tree) (defBody s_show_tree) (defScope s_show_tree) .none kV2 dc2 pm2 an2 cd2 ct2), sl2⟩) (c2 : PySem.W.codeIn K cd2 "show_tree" = true) (k2 : PySem.W.keepIn K (.ref f2) = true)
    {f3 : Addr} {od3 an3 : Option Addr} {sl3 : Array (Option Value)} {oc3 kV3 dc3 pm3 cd3 ct3 : Value}
    (a3 : PySem.W.nsIn K mainGlobals "is_whole" = some (some (.ref f3))) (l3 : K.lookup f3 = some ⟨oc3, od3, .func (PySem.W.fnOf "is_whole" "is_whole" (defArgs s_is_whole) (defBody s_is_whole) (defScope s_is_whole) .none kV3 dc3 pm3 an3 cd3 ct3), sl3⟩) (c3 : PySem.W.codeIn K cd3 "is_whole" = true) (k3 : PySem.W.keepIn K (.ref f3) = true)
    {f4 : Addr} {od4 an4 : Option Addr} {sl4 : Array (Option Value)} {oc4 kV4 dc4 pm4 cd4 ct4 : Value}
    (a4 : PySem.W.nsIn K mainGlobals "is_from_to" = some (some (.ref f4))) (l4 : K.lookup f4 = some ⟨oc4, od4, .func (PySem.W.fnOf "is_from_to" "is_from_to" (defArgs s_is_from_to) (defBody s_is_from_to) (defScope s_is_from_to) .none kV4 dc4 pm4 an4 cd4 ct4), sl4⟩) (c4 : PySem.W.codeIn K cd4 "is_from_to" = true) (k4 : PySem.W.keepIn K (.ref f4) = true)
    {f5 : Addr} {od5 an5 : Option Addr} {sl5 : Array (Option Value)} {oc5 kV5 dc5 pm5 cd5 ct5 : Value}
    (a5 : PySem.W.nsIn K mainGlobals "stem_of" = some (some (.ref f5))) (l5 : K.lookup f5 = some ⟨oc5, od5, .func (PySem.W.fnOf "stem_of" "stem_of" (defArgs s_stem_of) (defBody s_stem_of) (defScope s_stem_of) .none kV5 dc5 pm5 an5 cd5 ct5), sl5⟩) (c5 : PySem.W.codeIn K cd5 "stem_of" = true) (k5 : PySem.W.keepIn K (.ref f5) = true)
    {f6 : Addr} {od6 an6 : Option Addr} {sl6 : Array (Option Value)} {oc6 kV6 dc6 pm6 cd6 ct6 : Value}
    (a6 : PySem.W.nsIn K mainGlobals "is_word" = some (some (.ref f6))) (l6 : K.lookup f6 = some ⟨oc6, od6, .func (PySem.W.fnOf "is_word" "is_word" (defArgs s_is_word) (defBody s_is_word) (defScope s_is_word) .none kV6 dc6 pm6 an6 cd6 ct6), sl6⟩) (c6 : PySem.W.codeIn K cd6 "is_word" = true) (k6 : PySem.W.keepIn K (.ref f6) = true)
    {f7 : Addr} {od7 an7 : Option Addr} {sl7 : Array (Option Value)} {oc7 kV7 dc7 pm7 cd7 ct7 : Value}
    (a7 : PySem.W.nsIn K mainGlobals "is_row" = some (some (.ref f7))) (l7 : K.lookup f7 = some ⟨oc7, od7, .func (PySem.W.fnOf "is_row" "is_row" (defArgs s_is_row) (defBody s_is_row) (defScope s_is_row) .none kV7 dc7 pm7 an7 cd7 ct7), sl7⟩) (c7 : PySem.W.codeIn K cd7 "is_row" = true) (k7 : PySem.W.keepIn K (.ref f7) = true)
    {f8 : Addr} {od8 an8 : Option Addr} {sl8 : Array (Option Value)} {oc8 kV8 dc8 pm8 cd8 ct8 : Value}
    (a8 : PySem.W.nsIn K mainGlobals "is_bare" = some (some (.ref f8))) (l8 : K.lookup f8 = some ⟨oc8, od8, .func (PySem.W.fnOf "is_bare" "is_bare" (defArgs s_is_bare) (defBody s_is_bare) (defScope s_is_bare) .none kV8 dc8 pm8 an8 cd8 ct8), sl8⟩) (c8 : PySem.W.codeIn K cd8 "is_bare" = true) (k8 : PySem.W.keepIn K (.ref f8) = true)
    {f9 : Addr} {od9 an9 : Option Addr} {sl9 : Array (Option Value)} {oc9 kV9 dc9 pm9 cd9 ct9 : Value}
    (a9 : PySem.W.nsIn K mainGlobals "are_pairs" = some (some (.ref f9))) (l9 : K.lookup f9 = some ⟨oc9, od9, .func (PySem.W.fnOf "are_pairs" "are_pairs" (defArgs s_are_pairs) (defBody s_are_pairs) (defScope s_are_pairs) .none kV9 dc9 pm9 an9 cd9 ct9), sl9⟩) (c9 : PySem.W.codeIn K cd9 "are_pairs" = true) (k9 : PySem.W.keepIn K (.ref f9) = true)
    {f10 : Addr} {od10 an10 : Option Addr} {sl10 : Array (Option Value)} {oc10 kV10 dc10 pm10 cd10 ct10 : Value}
    (a10 : PySem.W.nsIn K mainGlobals "has_words" = some (some (.ref f10))) (l10 : K.lookup f10 = some ⟨oc10, od10, .func (PySem.W.fnOf "has_words" "has_words" (defArgs s_has_words) (defBody s_has_words) (defScope s_has_words) .none kV10 dc10 pm10 an10 cd10 ct10), sl10⟩) (c10 : PySem.W.codeIn K cd10 "has_words" = true) (k10 : PySem.W.keepIn K (.ref f10) = true)
    {f11 : Addr} {od11 an11 : Option Addr} {sl11 : Array (Option Value)} {oc11 kV11 dc11 pm11 cd11 ct11 : Value}
    (a11 : PySem.W.nsIn K mainGlobals "is_node" = some (some (.ref f11))) (l11 : K.lookup f11 = some ⟨oc11, od11, .func (PySem.W.fnOf "is_node" "is_node" (defArgs s_is_node) (defBody s_is_node) (defScope s_is_node) .none kV11 dc11 pm11 an11 cd11 ct11), sl11⟩) (c11 : PySem.W.codeIn K cd11 "is_node" = true) (k11 : PySem.W.keepIn K (.ref f11) = true)
    {f12 : Addr} {od12 an12 : Option Addr} {sl12 : Array (Option Value)} {oc12 kV12 dc12 pm12 cd12 ct12 : Value}
    (a12 : PySem.W.nsIn K mainGlobals "parts_of" = some (some (.ref f12))) (l12 : K.lookup f12 = some ⟨oc12, od12, .func (PySem.W.fnOf "parts_of" "parts_of" (defArgs s_parts_of) (defBody s_parts_of) (defScope s_parts_of) .none kV12 dc12 pm12 an12 cd12 ct12), sl12⟩) (c12 : PySem.W.codeIn K cd12 "parts_of" = true) (k12 : PySem.W.keepIn K (.ref f12) = true)
    {f13 : Addr} {od13 an13 : Option Addr} {sl13 : Array (Option Value)} {oc13 kV13 dc13 pm13 cd13 ct13 : Value}
    (a13 : PySem.W.nsIn K mainGlobals "counted_parts" = some (some (.ref f13))) (l13 : K.lookup f13 = some ⟨oc13, od13, .func (PySem.W.fnOf "counted_parts" "counted_parts" (defArgs s_counted_parts) (defBody s_counted_parts) (defScope s_counted_parts) .none kV13 dc13 pm13 an13 cd13 ct13), sl13⟩) (c13 : PySem.W.codeIn K cd13 "counted_parts" = true) (k13 : PySem.W.keepIn K (.ref f13) = true)
    {f14 : Addr} {od14 an14 : Option Addr} {sl14 : Array (Option Value)} {oc14 kV14 dc14 pm14 cd14 ct14 : Value}
    (a14 : PySem.W.nsIn K mainGlobals "is_tree" = some (some (.ref f14))) (l14 : K.lookup f14 = some ⟨oc14, od14, .func (PySem.W.fnOf "is_tree" "is_tree" (defArgs s_is_tree) (defBody s_is_tree) (defScope s_is_tree) .none kV14 dc14 pm14 an14 cd14 ct14), sl14⟩) (c14 : PySem.W.codeIn K cd14 "is_tree" = true) (k14 : PySem.W.keepIn K (.ref f14) = true)
    {f15 : Addr} {od15 an15 : Option Addr} {sl15 : Array (Option Value)} {oc15 kV15 dc15 pm15 cd15 ct15 : Value}
    (a15 : PySem.W.nsIn K mainGlobals "words_in" = some (some (.ref f15))) (l15 : K.lookup f15 = some ⟨oc15, od15, .func (PySem.W.fnOf "words_in" "words_in" (defArgs s_words_in) (defBody s_words_in) (defScope s_words_in) .none kV15 dc15 pm15 an15 cd15 ct15), sl15⟩) (c15 : PySem.W.codeIn K cd15 "words_in" = true) (k15 : PySem.W.keepIn K (.ref f15) = true)
    {f16 : Addr} {od16 an16 : Option Addr} {sl16 : Array (Option Value)} {oc16 kV16 dc16 pm16 cd16 ct16 : Value}
    (a16 : PySem.W.nsIn K mainGlobals "number_in" = some (some (.ref f16))) (l16 : K.lookup f16 = some ⟨oc16, od16, .func (PySem.W.fnOf "number_in" "number_in" (defArgs s_number_in) (defBody s_number_in) (defScope s_number_in) .none kV16 dc16 pm16 an16 cd16 ct16), sl16⟩) (c16 : PySem.W.codeIn K cd16 "number_in" = true) (k16 : PySem.W.keepIn K (.ref f16) = true)
    {f17 : Addr} {od17 an17 : Option Addr} {sl17 : Array (Option Value)} {oc17 kV17 dc17 pm17 cd17 ct17 : Value}
    (a17 : PySem.W.nsIn K mainGlobals "read_some" = some (some (.ref f17))) (l17 : K.lookup f17 = some ⟨oc17, od17, .func (PySem.W.fnOf "read_some" "read_some" (defArgs s_read_some) (defBody s_read_some) (defScope s_read_some) .none kV17 dc17 pm17 an17 cd17 ct17), sl17⟩) (c17 : PySem.W.codeIn K cd17 "read_some" = true) (k17 : PySem.W.keepIn K (.ref f17) = true)
    {f18 : Addr} {od18 an18 : Option Addr} {sl18 : Array (Option Value)} {oc18 kV18 dc18 pm18 cd18 ct18 : Value}
    (a18 : PySem.W.nsIn K mainGlobals "read_pairs" = some (some (.ref f18))) (l18 : K.lookup f18 = some ⟨oc18, od18, .func (PySem.W.fnOf "read_pairs" "read_pairs" (defArgs s_read_pairs) (defBody s_read_pairs) (defScope s_read_pairs) .none kV18 dc18 pm18 an18 cd18 ct18), sl18⟩) (c18 : PySem.W.codeIn K cd18 "read_pairs" = true) (k18 : PySem.W.keepIn K (.ref f18) = true)
    {f19 : Addr} {od19 an19 : Option Addr} {sl19 : Array (Option Value)} {oc19 kV19 dc19 pm19 cd19 ct19 : Value}
    (a19 : PySem.W.nsIn K mainGlobals "read_inside" = some (some (.ref f19))) (l19 : K.lookup f19 = some ⟨oc19, od19, .func (PySem.W.fnOf "read_inside" "read_inside" (defArgs s_read_inside) (defBody s_read_inside) (defScope s_read_inside) .none kV19 dc19 pm19 an19 cd19 ct19), sl19⟩) (c19 : PySem.W.codeIn K cd19 "read_inside" = true) (k19 : PySem.W.keepIn K (.ref f19) = true)
    {f20 : Addr} {od20 an20 : Option Addr} {sl20 : Array (Option Value)} {oc20 kV20 dc20 pm20 cd20 ct20 : Value}
    (a20 : PySem.W.nsIn K mainGlobals "read_one" = some (some (.ref f20))) (l20 : K.lookup f20 = some ⟨oc20, od20, .func (PySem.W.fnOf "read_one" "read_one" (defArgs s_read_one) (defBody s_read_one) (defScope s_read_one) .none kV20 dc20 pm20 an20 cd20 ct20), sl20⟩) (c20 : PySem.W.codeIn K cd20 "read_one" = true) (k20 : PySem.W.keepIn K (.ref f20) = true)
    {f21 : Addr} {od21 an21 : Option Addr} {sl21 : Array (Option Value)} {oc21 kV21 dc21 pm21 cd21 ct21 : Value}
    (a21 : PySem.W.nsIn K mainGlobals "read_tree" = some (some (.ref f21))) (l21 : K.lookup f21 = some ⟨oc21, od21, .func (PySem.W.fnOf "read_tree" "read_tree" (defArgs s_read_tree) (defBody s_read_tree) (defScope s_read_tree) .none kV21 dc21 pm21 an21 cd21 ct21), sl21⟩) (c21 : PySem.W.codeIn K cd21 "read_tree" = true) (k21 : PySem.W.keepIn K (.ref f21) = true)
    {f22 : Addr} {od22 an22 : Option Addr} {sl22 : Array (Option Value)} {oc22 kV22 dc22 pm22 cd22 ct22 : Value}
    (a22 : PySem.W.nsIn K mainGlobals "_law_bag" = some (some (.ref f22))) (l22 : K.lookup f22 = some ⟨oc22, od22, .func (PySem.W.fnOf "_law_bag" "_law_bag" (defArgs s__law_bag) (defBody s__law_bag) (defScope s__law_bag) .none kV22 dc22 pm22 an22 cd22 ct22), sl22⟩) (c22 : PySem.W.codeIn K cd22 "_law_bag" = true) (k22 : PySem.W.keepIn K (.ref f22) = true)
    {f23 : Addr} {od23 an23 : Option Addr} {sl23 : Array (Option Value)} {oc23 kV23 dc23 pm23 cd23 ct23 : Value}
    (a23 : PySem.W.nsIn K mainGlobals "_law_take" = some (some (.ref f23))) (l23 : K.lookup f23 = some ⟨oc23, od23, .func (PySem.W.fnOf "_law_take" "_law_take" (defArgs s__law_take) (defBody s__law_take) (defScope s__law_take) .none kV23 dc23 pm23 an23 cd23 ct23), sl23⟩) (c23 : PySem.W.codeIn K cd23 "_law_take" = true) (k23 : PySem.W.keepIn K (.ref f23) = true)
    {f24 : Addr} {od24 an24 : Option Addr} {sl24 : Array (Option Value)} {oc24 kV24 dc24 pm24 cd24 ct24 : Value}
    (a24 : PySem.W.nsIn K mainGlobals "_law_words" = some (some (.ref f24))) (l24 : K.lookup f24 = some ⟨oc24, od24, .func (PySem.W.fnOf "_law_words" "_law_words" (defArgs s__law_words) (defBody s__law_words) (defScope s__law_words) .none kV24 dc24 pm24 an24 cd24 ct24), sl24⟩) (c24 : PySem.W.codeIn K cd24 "_law_words" = true) (k24 : PySem.W.keepIn K (.ref f24) = true)
    {f25 dT25 : Addr} {do25 : Obj} {di25 : Array Value} {dn25 : Nat} {od25 an25 : Option Addr} {sl25 : Array (Option Value)} {oc25 kV25 dc25 pm25 cd25 ct25 : Value}
    (a25 : PySem.W.nsIn K mainGlobals "_law_plain" = some (some (.ref f25))) (l25 : K.lookup f25 = some ⟨oc25, od25, .func (PySem.W.fnOf "_law_plain" "_law_plain" (defArgs s__law_plain) (defBody s__law_plain) (defScope s__law_plain) (.ref dT25) kV25 dc25 pm25 an25 cd25 ct25), sl25⟩) (c25 : PySem.W.codeIn K cd25 "_law_plain" = true) (k25 : PySem.W.keepIn K (.ref f25) = true) (dy25 : K.lookup dT25 = some do25) (yd_d25 : do25.data = .seq di25 dn25) (ye_d25 : flatIs di25.toList [(.int 0)] = true)
    {f26 dT26 : Addr} {do26 : Obj} {di26 : Array Value} {dn26 : Nat} {od26 an26 : Option Addr} {sl26 : Array (Option Value)} {oc26 kV26 dc26 pm26 cd26 ct26 : Value}
    (a26 : PySem.W.nsIn K mainGlobals "_law_node" = some (some (.ref f26))) (l26 : K.lookup f26 = some ⟨oc26, od26, .func (PySem.W.fnOf "_law_node" "_law_node" (defArgs s__law_node) (defBody s__law_node) (defScope s__law_node) (.ref dT26) kV26 dc26 pm26 an26 cd26 ct26), sl26⟩) (c26 : PySem.W.codeIn K cd26 "_law_node" = true) (k26 : PySem.W.keepIn K (.ref f26) = true) (dy26 : K.lookup dT26 = some do26) (yd_d26 : do26.data = .seq di26 dn26) (ye_d26 : flatIs di26.toList [(.int 0)] = true)
    {f27 : Addr} {od27 an27 : Option Addr} {sl27 : Array (Option Value)} {oc27 kV27 dc27 pm27 cd27 ct27 : Value}
    (a27 : PySem.W.nsIn K mainGlobals "_law_any" = some (some (.ref f27))) (l27 : K.lookup f27 = some ⟨oc27, od27, .func (PySem.W.fnOf "_law_any" "_law_any" (defArgs s__law_any) (defBody s__law_any) (defScope s__law_any) .none kV27 dc27 pm27 an27 cd27 ct27), sl27⟩) (c27 : PySem.W.codeIn K cd27 "_law_any" = true) (k27 : PySem.W.keepIn K (.ref f27) = true)
    {f28 : Addr} {od28 an28 : Option Addr} {sl28 : Array (Option Value)} {oc28 kV28 dc28 pm28 cd28 ct28 : Value}
    (a28 : PySem.W.nsIn K mainGlobals "_law_parts" = some (some (.ref f28))) (l28 : K.lookup f28 = some ⟨oc28, od28, .func (PySem.W.fnOf "_law_parts" "_law_parts" (defArgs s__law_parts) (defBody s__law_parts) (defScope s__law_parts) .none kV28 dc28 pm28 an28 cd28 ct28), sl28⟩) (c28 : PySem.W.codeIn K cd28 "_law_parts" = true) (k28 : PySem.W.keepIn K (.ref f28) = true)
    {f29 : Addr} {od29 an29 : Option Addr} {sl29 : Array (Option Value)} {oc29 kV29 dc29 pm29 cd29 ct29 : Value}
    (a29 : PySem.W.nsIn K mainGlobals "_law_shown" = some (some (.ref f29))) (l29 : K.lookup f29 = some ⟨oc29, od29, .func (PySem.W.fnOf "_law_shown" "_law_shown" (defArgs s__law_shown) (defBody s__law_shown) (defScope s__law_shown) .none kV29 dc29 pm29 an29 cd29 ct29), sl29⟩) (c29 : PySem.W.codeIn K cd29 "_law_shown" = true) (k29 : PySem.W.keepIn K (.ref f29) = true)
    {f30 : Addr} {od30 an30 : Option Addr} {sl30 : Array (Option Value)} {oc30 kV30 dc30 pm30 cd30 ct30 : Value}
    (a30 : PySem.W.nsIn K mainGlobals "law" = some (some (.ref f30))) (l30 : K.lookup f30 = some ⟨oc30, od30, .func (PySem.W.fnOf "law" "law" (defArgs s_law) (defBody s_law) (defScope s_law) .none kV30 dc30 pm30 an30 cd30 ct30), sl30⟩) (c30 : PySem.W.codeIn K cd30 "law" = true) (k30 : PySem.W.keepIn K (.ref f30) = true)
    {f31 : Addr} {od31 an31 : Option Addr} {sl31 : Array (Option Value)} {oc31 kV31 dc31 pm31 cd31 ct31 : Value}
    (a31 : PySem.W.findIn K (.ref C0) "__init__" = some (some (.ref f31))) (i31 : PySem.W.isFn K (.ref f31) = true) (l31 : K.lookup f31 = some ⟨oc31, od31, .func (PySem.W.fnOf "__init__" "Reading.__init__" (defArgs s_Reading____init__) (defBody s_Reading____init__) (defScope s_Reading____init__) .none kV31 dc31 pm31 an31 cd31 ct31), sl31⟩) (c31 : PySem.W.codeIn K cd31 "Reading.__init__" = true) (k31 : PySem.W.keepIn K (.ref f31) = true)
    {f32 : Addr} {od32 an32 : Option Addr} {sl32 : Array (Option Value)} {oc32 kV32 dc32 pm32 cd32 ct32 : Value}
    (a32 : PySem.W.findIn K (.ref C0) "ahead" = some (some (.ref f32))) (i32 : PySem.W.isFn K (.ref f32) = true) (l32 : K.lookup f32 = some ⟨oc32, od32, .func (PySem.W.fnOf "ahead" "Reading.ahead" (defArgs s_Reading__ahead) (defBody s_Reading__ahead) (defScope s_Reading__ahead) .none kV32 dc32 pm32 an32 cd32 ct32), sl32⟩) (c32 : PySem.W.codeIn K cd32 "Reading.ahead" = true) (k32 : PySem.W.keepIn K (.ref f32) = true)
    {f33 : Addr} {od33 an33 : Option Addr} {sl33 : Array (Option Value)} {oc33 kV33 dc33 pm33 cd33 ct33 : Value}
    (a33 : PySem.W.findIn K (.ref C0) "taken" = some (some (.ref f33))) (i33 : PySem.W.isFn K (.ref f33) = true) (l33 : K.lookup f33 = some ⟨oc33, od33, .func (PySem.W.fnOf "taken" "Reading.taken" (defArgs s_Reading__taken) (defBody s_Reading__taken) (defScope s_Reading__taken) .none kV33 dc33 pm33 an33 cd33 ct33), sl33⟩) (c33 : PySem.W.codeIn K cd33 "Reading.taken" = true) (k33 : PySem.W.keepIn K (.ref f33) = true)
    {f34 : Addr} {od34 an34 : Option Addr} {sl34 : Array (Option Value)} {oc34 kV34 dc34 pm34 cd34 ct34 : Value}
    (a34 : PySem.W.findIn K (.ref C0) "need" = some (some (.ref f34))) (i34 : PySem.W.isFn K (.ref f34) = true) (l34 : K.lookup f34 = some ⟨oc34, od34, .func (PySem.W.fnOf "need" "Reading.need" (defArgs s_Reading__need) (defBody s_Reading__need) (defScope s_Reading__need) .none kV34 dc34 pm34 an34 cd34 ct34), sl34⟩) (c34 : PySem.W.codeIn K cd34 "Reading.need" = true) (k34 : PySem.W.keepIn K (.ref f34) = true)
    (z1 : PySem.W.nsIn K mainGlobals "abs" = some none)
    (z2 : PySem.W.nsIn K mainGlobals "all" = some none)
    (z3 : PySem.W.nsIn K mainGlobals "bool" = some none)
    (z4 : PySem.W.nsIn K mainGlobals "int" = some none)
    (z5 : PySem.W.nsIn K mainGlobals "isinstance" = some none)
    (z6 : PySem.W.nsIn K mainGlobals "len" = some none)
    (z7 : PySem.W.nsIn K mainGlobals "list" = some none)
    (z8 : PySem.W.nsIn K mainGlobals "max" = some none)
    (z9 : PySem.W.nsIn K mainGlobals "range" = some none)
    (z10 : PySem.W.nsIn K mainGlobals "repr" = some none)
    (z11 : PySem.W.nsIn K mainGlobals "set" = some none)
    (z12 : PySem.W.nsIn K mainGlobals "str" = some none)
    (z13 : PySem.W.nsIn K mainGlobals "tuple" = some none)
    {ga14 : Addr} {go14 : Obj} {gi14 : Array Value} {gn14 : Nat} (z14 : PySem.W.nsIn K mainGlobals "KEPT" = some (some (.ref ga14))) (y14 : K.lookup ga14 = some go14) (yc14 : go14.cls = .type "tuple") (yd14 : go14.data = .seq gi14 gn14) (ye14 : flatIs gi14.toList [(.str "yes"), (.str "no"), (.str "if"), (.str "let"), (.str "loop"), (.str "raise"), (.str "try"), (.str "pick"), (.str "many"), (.str "parts"), (.str "mark"), (.str "melt"), (.str "def")] = true)
    {t15 : Tok} (z15 : PySem.W.nsIn K mainGlobals "LETTERS" = some (some (.str ("abcdefghijklmnopqrstuvwxyz") t15)))
    {t16 : Tok} (z16 : PySem.W.nsIn K mainGlobals "FIGURES" = some (some (.str ("0123456789") t16)))
    {t17 : Tok} (z17 : PySem.W.nsIn K mainGlobals "MOST_LETTERS" = some (some (.int (8) t17)))
    {t18 : Tok} (z18 : PySem.W.nsIn K mainGlobals "MOST_FIGURES_words" = some (some (.int (3) t18)))
    {ga19 : Addr} {go19 : Obj} {gi19 : Array Value} {gn19 : Nat} (z19 : PySem.W.nsIn K mainGlobals "PLAIN" = some (some (.ref ga19))) (y19 : K.lookup ga19 = some go19) (yc19 : go19.cls = .type "tuple") (yd19 : go19.data = .seq gi19 gn19) (ye19 : flatIs gi19.toList [(.str "number"), (.str "truth"), (.str "name")] = true)
    {ga20 : Addr} {go20 : Obj} {gi20 : Array Value} {gn20 : Nat} (z20 : PySem.W.nsIn K mainGlobals "SIGNS" = some (some (.ref ga20))) (y20 : K.lookup ga20 = some go20) (yc20 : go20.cls = .type "tuple") (yd20 : go20.data = .seq gi20 gn20) (ye20 : flatIs gi20.toList [(.str "+"), (.str "-"), (.str "*"), (.str "/"), (.str "<"), (.str "=")] = true)
    {ga21 : Addr} {go21 : Obj} {gi21 : Array DictEntry} {gn21 : Nat} (z21 : PySem.W.nsIn K mainGlobals "SHAPES" = some (some (.ref ga21))) (y21 : K.lookup ga21 = some go21) (yx21 : go21.ExactDict) (yd21 : go21.data = .dict gi21 gn21) (yt21 : tabIs w gi21.toList t_SHAPES) (yc21 : (ga21 == sysModules) = false)
    {t22 : Tok} (z22 : PySem.W.nsIn K mainGlobals "MOST_NUMBER" = some (some (.int (1000000000) t22)))
    {t23 : Tok} (z23 : PySem.W.nsIn K mainGlobals "MOST_ARGS" = some (some (.int (4) t23)))
    {t24 : Tok} (z24 : PySem.W.nsIn K mainGlobals "MOST_NODES" = some (some (.int (2000) t24)))
    {t25 : Tok} (z25 : PySem.W.nsIn K mainGlobals "MOST_DEPTH" = some (some (.int (64) t25)))
    {t26 : Tok} (z26 : PySem.W.nsIn K mainGlobals "MOST_FIGURES_reader" = some (some (.int (10) t26)))
    : ∃ fd : FuncData, (∀ (s : Shared) (v : Value), BindsTo s fd ⟨[v], []⟩ [("_law_script", v)]) ∧ ∀ base : Heap, K.In base → base.Ns mainGlobals mg → FnG l.prog w K mg base (N + 1) fa fd ["_law_script"] (spA K 1 (g_law (den N))) := by
  have e := hfa.symm.trans (PySem.W.mg_of X G a30)
  cases e
  have T : Fs w K mg := {
    G := { n_abs := PySem.W.mg_none_of X G z1, n_all := PySem.W.mg_none_of X G z2, n_bool := PySem.W.mg_none_of X G z3, n_int := PySem.W.mg_none_of X G z4, n_isinstance := PySem.W.mg_none_of X G z5, n_len := PySem.W.mg_none_of X G z6, n_list := PySem.W.mg_none_of X G z7, n_max := PySem.W.mg_none_of X G z8, n_range := PySem.W.mg_none_of X G z9, n_repr := PySem.W.mg_none_of X G z10, n_set := PySem.W.mg_none_of X G z11, n_str := PySem.W.mg_none_of X G z12, n_tuple := PySem.W.mg_none_of X G z13, g_KEPT := globD_tup (PySem.W.mg_of X G z14) y14 yc14 yd14 ye14, g_LETTERS := globD_str (PySem.W.mg_of X G z15), g_FIGURES := globD_str (PySem.W.mg_of X G z16), g_MOST_LETTERS := globD_int (PySem.W.mg_of X G z17), g_MOST_FIGURES_words := globD_int (PySem.W.mg_of X G z18), g_PLAIN := globD_tup (PySem.W.mg_of X G z19) y19 yc19 yd19 ye19, g_SIGNS := globD_tup (PySem.W.mg_of X G z20) y20 yc20 yd20 ye20, g_SHAPES := ⟨_, _, _, _, PySem.W.mg_of X G z21, y21, yx21, yd21, yt21, yc21, by decide +kernel⟩, g_MOST_NUMBER := globD_int (PySem.W.mg_of X G z22), g_MOST_ARGS := globD_int (PySem.W.mg_of X G z23), g_MOST_NODES := globD_int (PySem.W.mg_of X G z24), g_MOST_DEPTH := globD_int (PySem.W.mg_of X G z25), g_MOST_FIGURES_reader := globD_int (PySem.W.mg_of X G z26), a_Reading_read := clF_of (PySem.W.mg_of X G aC0) ⟨pg0, hd0, po0, sa0⟩ na0_read, a_Reading_words := clF_of (PySem.W.mg_of X G aC0) ⟨pg0, hd0, po0, sa0⟩ na0_words }
    f_shown_parts := ⟨_, _, fun_mk (st := s_shown_parts) l1 c1 k1, PySem.W.mg_of X G a1⟩
    f_show_tree := ⟨_, _, fun_mk (st := s_show_tree) l2 c2 k2, PySem.W.mg_of X G a2⟩
    f_is_whole := ⟨_, _, fun_mk (st := s_is_whole) l3 c3 k3, PySem.W.mg_of X G a3⟩
    f_is_from_to := ⟨_, _, fun_mk (st := s_is_from_to) l4 c4 k4, PySem.W.mg_of X G a4⟩
    f_stem_of := ⟨_, _, fun_mk (st := s_stem_of) l5 c5 k5, PySem.W.mg_of X G a5⟩
    f_is_word := ⟨_, _, fun_mk (st := s_is_word) l6 c6 k6, PySem.W.mg_of X G a6⟩
    f_is_row := ⟨_, _, fun_mk (st := s_is_row) l7 c7 k7, PySem.W.mg_of X G a7⟩
    f_is_bare := ⟨_, _, fun_mk (st := s_is_bare) l8 c8 k8, PySem.W.mg_of X G a8⟩
    f_are_pairs := ⟨_, _, fun_mk (st := s_are_pairs) l9 c9 k9, PySem.W.mg_of X G a9⟩
    f_has_words := ⟨_, _, fun_mk (st := s_has_words) l10 c10 k10, PySem.W.mg_of X G a10⟩
    f_is_node := ⟨_, _, fun_mk (st := s_is_node) l11 c11 k11, PySem.W.mg_of X G a11⟩
    f_parts_of := ⟨_, _, fun_mk (st := s_parts_of) l12 c12 k12, PySem.W.mg_of X G a12⟩
    f_counted_parts := ⟨_, _, fun_mk (st := s_counted_parts) l13 c13 k13, PySem.W.mg_of X G a13⟩
    f_is_tree := ⟨_, _, fun_mk (st := s_is_tree) l14 c14 k14, PySem.W.mg_of X G a14⟩
    f_words_in := ⟨_, _, fun_mk (st := s_words_in) l15 c15 k15, PySem.W.mg_of X G a15⟩
    f_number_in := ⟨_, _, fun_mk (st := s_number_in) l16 c16 k16, PySem.W.mg_of X G a16⟩
    f_read_some := ⟨_, _, fun_mk (st := s_read_some) l17 c17 k17, PySem.W.mg_of X G a17⟩
    f_read_pairs := ⟨_, _, fun_mk (st := s_read_pairs) l18 c18 k18, PySem.W.mg_of X G a18⟩
    f_read_inside := ⟨_, _, fun_mk (st := s_read_inside) l19 c19 k19, PySem.W.mg_of X G a19⟩
    f_read_one := ⟨_, _, fun_mk (st := s_read_one) l20 c20 k20, PySem.W.mg_of X G a20⟩
    f_read_tree := ⟨_, _, fun_mk (st := s_read_tree) l21 c21 k21, PySem.W.mg_of X G a21⟩
    f__law_bag := ⟨_, _, fun_mk (st := s__law_bag) l22 c22 k22, PySem.W.mg_of X G a22⟩
    f__law_take := ⟨_, _, fun_mk (st := s__law_take) l23 c23 k23, PySem.W.mg_of X G a23⟩
    f__law_words := ⟨_, _, fun_mk (st := s__law_words) l24 c24 k24, PySem.W.mg_of X G a24⟩
    f__law_plain := ⟨_, _, funV_mk (st := s__law_plain) l25 c25 k25, bindsV (st := s__law_plain) l25 c25 k25 dy25 yd_d25 ye_d25 (by decide) (fun T kV doc pm an cdv ct us its hu hi => match us, hu, its, hi with | [_, _, _], _, [_], _ => ⟨_, rfl, rfl⟩), bindD_of (st := s__law_plain) l25 c25 k25 dy25 yd_d25 ye_d25 (by decide) 2 rfl (fun T kV doc pm an cdv ct us its hu hi => match us, hu, its, hi with | [_, _], _, [_], _ => ⟨_, rfl, rfl⟩), PySem.W.mg_of X G a25⟩
    f__law_node := ⟨_, _, funV_mk (st := s__law_node) l26 c26 k26, bindsV (st := s__law_node) l26 c26 k26 dy26 yd_d26 ye_d26 (by decide) (fun T kV doc pm an cdv ct us its hu hi => match us, hu, its, hi with | [_, _, _, _, _, _], _, [_], _ => ⟨_, rfl, rfl⟩), bindD_of (st := s__law_node) l26 c26 k26 dy26 yd_d26 ye_d26 (by decide) 5 rfl (fun T kV doc pm an cdv ct us its hu hi => match us, hu, its, hi with | [_, _, _, _, _], _, [_], _ => ⟨_, rfl, rfl⟩), PySem.W.mg_of X G a26⟩
    f__law_any := ⟨_, _, fun_mk (st := s__law_any) l27 c27 k27, PySem.W.mg_of X G a27⟩
    f__law_parts := ⟨_, _, fun_mk (st := s__law_parts) l28 c28 k28, PySem.W.mg_of X G a28⟩
    f__law_shown := ⟨_, _, fun_mk (st := s__law_shown) l29 c29 k29, PySem.W.mg_of X G a29⟩
    f_law := ⟨_, _, fun_mk (st := s_law) l30 c30 k30, PySem.W.mg_of X G a30⟩
    f_Reading____init__ := ⟨_, _, _, fun_mk (st := s_Reading____init__) l31 c31 k31, PySem.W.mg_of X G aC0, ⟨mk0, a31, i31, kC0⟩⟩
    f_Reading__ahead := ⟨_, _, _, fun_mk (st := s_Reading__ahead) l32 c32 k32, PySem.W.mg_of X G aC0, ⟨pg0, hd0, po0, sa0⟩, ⟨a32, i32, k32⟩⟩
    f_Reading__taken := ⟨_, _, _, fun_mk (st := s_Reading__taken) l33 c33 k33, PySem.W.mg_of X G aC0, ⟨pg0, hd0, po0, sa0⟩, ⟨a33, i33, k33⟩⟩
    f_Reading__need := ⟨_, _, _, fun_mk (st := s_Reading__need) l34 c34 k34, PySem.W.mg_of X G aC0, ⟨pg0, hd0, po0, sa0⟩, ⟨a34, i34, k34⟩⟩
  }
  exact ⟨PySem.W.fnOf "law" "law" (defArgs s_law) (defBody s_law) (defScope s_law) .none kV30 dc30 pm30 an30 cd30 ct30, fun s v => .of_eq rfl, fun base _ _ => (ok_law (fun_mk (st := s_law) l30 c30 k30) T.G (cs T N)).all⟩
/-- what a node is, its trees aside -/
inductive Kd
  | num (i : Int) | tru (b : Bool) | nam (w : Str) | rai (w : Str) | do_ (w : Str) | let_ (w : Str) | pick (i : Int) | mark (i : Int)
  | many | iff | parts | loop (w w2 : Str) | try_ (w : Str) | call (w : Str) | melt (w : Str) (ws : List Str)
noncomputable def Kd.mk : Kd → List D → D
  | .num i, _ => .tup [.str "number", .int i]
  | .tru b, _ => .tup [.str "truth", .bl b]
  | .nam w, _ => .tup [.str "name", .str w]
  | .rai w, _ => .tup [.str "raise", .str w]
  | .do_ w, ds => .tup (.str "do" :: .str w :: ds)
  | .let_ w, ds => .tup (.str "let" :: .str w :: ds)
  | .pick i, ds => .tup (.str "pick" :: .int i :: ds)
  | .mark i, ds => .tup (.str "mark" :: .int i :: ds)
  | .many, ds => .tup (.str "many" :: ds)
  | .iff, ds => .tup (.str "if" :: ds)
  | .parts, ds => .tup [.str "parts", .tup ds]
  | .loop w w2, ds => .tup [.str "loop", .str w, ds.getD 0 .non, .str w2, ds.getD 1 .non, ds.getD 2 .non]
  | .try_ w, ds => .tup [.str "try", ds.getD 0 .non, .str w, ds.getD 1 .non]
  | .call w, ds => .tup [.str "call", .str w, .tup ds]
  | .melt w ws, ds => .tup [.str "melt", .str w, .tup (List.zipWith (fun w d => .tup [.str w, d]) ws ds), ds.getD ws.length .non]
noncomputable def Kd.ar : Kd → Nat → Prop
  | .num _, n | .tru _, n | .nam _, n | .rai _, n => n = 0
  | .do_ _, n | .let_ _, n | .try_ _, n => n = 2
  | .pick _, n | .mark _, n | .many, n => n = 1
  | .iff, n | .loop _ _, n => n = 3
  | .parts, n | .call _, n => n ≤ 1000
  | .melt _ ws, n => n = ws.length + 1 ∧ ws.length ≤ 1000
inductive Tr
  | nd (k : Kd) (xs : List Tr)
noncomputable def Tr.xs : Tr → List Tr
  | .nd _ xs => xs
mutual
noncomputable def Tr.d : Tr → D
  | .nd k xs => k.mk (Tr.ds xs)
noncomputable def Tr.ds : List Tr → List D
  | [] => []
  | x :: xs => x.d :: Tr.ds xs
end
mutual
noncomputable def Tr.ok : Tr → Prop
  | .nd k xs => k.ar xs.length ∧ Tr.oks xs
noncomputable def Tr.oks : List Tr → Prop
  | [] => True
  | x :: xs => x.ok ∧ Tr.oks xs
end
mutual
noncomputable def Tr.sz : Tr → Nat
  | .nd _ xs => Tr.szs xs + 1
noncomputable def Tr.szs : List Tr → Nat
  | [] => 0
  | x :: xs => x.sz + Tr.szs xs
end
mutual
noncomputable def Tr.dep : Tr → Nat
  | .nd _ xs => Tr.deps xs + 1
noncomputable def Tr.deps : List Tr → Nat
  | [] => 0
  | x :: xs => max x.dep (Tr.deps xs)
end
noncomputable def Kd.thw : Kd → List Tr → Tr
  | .melt w _, xs => .nd (.call w) xs.dropLast
  | k, xs => .nd k xs
mutual
noncomputable def Tr.th : Tr → Tr
  | .nd k xs => k.thw (Tr.ths xs)
noncomputable def Tr.ths : List Tr → List Tr
  | [] => []
  | x :: xs => x.th :: Tr.ths xs
end
mutual
noncomputable def Tr.ls : Tr → List Tr
  | .nd k xs => .nd k xs :: Tr.lss xs
noncomputable def Tr.lss : List Tr → List Tr
  | [] => []
  | x :: xs => x.ls ++ Tr.lss xs
end
theorem ds_len : ∀ xs : List Tr, (Tr.ds xs).length = xs.length
  | [] => rfl
  | x :: xs => congrArg (· + 1) (ds_len xs)
theorem ds_map : ∀ xs : List Tr, Tr.ds xs = xs.map Tr.d
  | [] => rfl
  | x :: xs => congrArg (x.d :: ·) (ds_map xs)
theorem ds_app (xs ys : List Tr) : Tr.ds (xs ++ ys) = Tr.ds xs ++ Tr.ds ys := by rw [ds_map, ds_map, ds_map, List.map_append]
theorem oks_mem : ∀ {xs : List Tr}, Tr.oks xs → ∀ x ∈ xs, x.ok
  | [], _, x, h => by simp at h
  | y :: ys, ⟨h1, h2⟩, x, h => by
    rcases List.mem_cons.mp h with e | e
    · rw [e]; exact h1
    · exact oks_mem h2 x e
theorem oks_of : ∀ {xs : List Tr}, (∀ x ∈ xs, x.ok) → Tr.oks xs
  | [], _ => trivial
  | y :: ys, h => ⟨h y (List.mem_cons_self ..), oks_of fun x hx => h x (List.mem_cons_of_mem _ hx)⟩
theorem deps_mem : ∀ {xs : List Tr} {n : Nat}, Tr.deps xs ≤ n → ∀ x ∈ xs, x.dep ≤ n
  | [], _, _, x, h => by simp at h
  | y :: ys, n, h0, x, h => by
    have h0 : max y.dep (Tr.deps ys) ≤ n := h0
    rcases List.mem_cons.mp h with e | e
    · rw [e]; omega
    · exact deps_mem (by omega) x e
theorem tdeps_of : ∀ {xs : List Tr} {n : Nat}, (∀ x ∈ xs, x.dep ≤ n) → Tr.deps xs ≤ n
  | [], n, _ => Nat.zero_le _
  | y :: ys, n, h => by
    have h1 := h y (List.mem_cons_self ..)
    have h2 := tdeps_of fun x hx => h x (List.mem_cons_of_mem _ hx)
    show max y.dep (Tr.deps ys) ≤ n
    omega
theorem len1 {α : Type} {xs : List α} (h : xs.length = 1) : ∃ a, xs = [a] := by
  match xs, h with
  | [a], _ => exact ⟨a, rfl⟩
theorem len2 {α : Type} {xs : List α} (h : xs.length = 2) : ∃ a b, xs = [a, b] := by
  match xs, h with
  | [a, b], _ => exact ⟨a, b, rfl⟩
theorem len3 {α : Type} {xs : List α} (h : xs.length = 3) : ∃ a b c, xs = [a, b, c] := by
  match xs, h with
  | [a, b, c], _ => exact ⟨a, b, c, rfl⟩
theorem inD_t2 (x a b : Str) : inD (.str x) (.tup [.str a, .str b]) = some (.d (.bl (a == x || b == x))) := by
  have h : inOk (.str x) [.str a, .str b] = true := inOk_strs x [a, b]
  show (if inOk (.str x) [.str a, .str b] = true then some (M.d (.bl ([D.str a, .str b].any fun y => D.eqb y (.str x)))) else none) = _
  rw [if_pos h]
  simp
theorem inD_t4 (x a b c d : Str) : inD (.str x) (.tup [.str a, .str b, .str c, .str d]) = some (.d (.bl (a == x || (b == x || (c == x || d == x))))) := by
  have h : inOk (.str x) [.str a, .str b, .str c, .str d] = true := inOk_strs x [a, b, c, d]
  show (if inOk (.str x) [.str a, .str b, .str c, .str d] = true then some (M.d (.bl ([D.str a, .str b, .str c, .str d].any fun y => D.eqb y (.str x)))) else none) = _
  rw [if_pos h]
  simp
theorem cut_2n (a b : D) (ds : List D) : cutD (a :: b :: ds) (some 2) none = ds := by
  unfold cutD HT.sIx
  simp
theorem cut_1n (a : D) (ds : List D) : cutD (a :: ds) (some 1) none = ds := by
  unfold cutD HT.sIx
  simp
theorem cut_n2 (a b : D) (ds : List D) : cutD (a :: b :: ds) none (some 2) = [a, b] := by
  unfold cutD HT.sIx
  simp
theorem cut_n1 (a : D) (ds : List D) : cutD (a :: ds) none (some 1) = [a] := by
  unfold cutD HT.sIx
  simp
/-- the pairs of a melt's row -/
noncomputable def prs : List Str → List D → List D
  | w :: ws, d :: ds => .tup [.str w, d] :: prs ws ds
  | _, _ => []
theorem zip_prs : ∀ (ws : List Str) (ds : List D), List.zipWith (fun w d => D.tup [.str w, d]) ws ds = prs ws ds
  | [], _ => by unfold prs; rfl
  | _ :: _, [] => by unfold prs; rfl
  | w :: ws, d :: ds => by
    rw [List.zipWith_cons_cons, zip_prs ws ds]
    rfl
theorem prs_len : ∀ {ws : List Str} {ds : List D}, ds.length = ws.length → (prs ws ds).length = ws.length
  | [], [], _ => rfl
  | _ :: _, _ :: _, h => congrArg (· + 1) (prs_len (by simpa using h))
theorem prs_cut : ∀ {ws : List Str} {ds : List D} (l : List D), ds.length = ws.length → prs ws (ds ++ l) = prs ws ds
  | [], [], l, _ => by cases l <;> (unfold prs; rfl)
  | w :: ws, d :: ds, l, h => by
    show D.tup [.str w, d] :: prs ws (ds ++ l) = D.tup [.str w, d] :: prs ws ds
    rw [prs_cut l (by simpa using h)]
noncomputable def sndD (d : D) : D := match d with
  | .tup [_, x] => x
  | d => d
theorem prs_snd : ∀ {ws : List Str} {ds : List D}, ds.length = ws.length → (prs ws ds).map sndD = ds
  | [], [], _ => rfl
  | _ :: _, d :: ds, h => congrArg (d :: ·) (prs_snd (by simpa using h))
theorem prs_mem : ∀ {ws : List Str} {ds : List D} {d : D}, d ∈ prs ws ds → ∃ w x, d = .tup [.str w, x] ∧ x ∈ ds ∧ w ∈ ws
  | [], _, d, h => by unfold prs at h; simp at h
  | _ :: _, [], d, h => by unfold prs at h; simp at h
  | w :: ws, x :: ds, d, h => by
    rcases List.mem_cons.mp (show d ∈ D.tup [.str w, x] :: prs ws ds from h) with e | e
    · exact ⟨w, x, e, List.mem_cons_self .., List.mem_cons_self ..⟩
    · obtain ⟨w', x', e1, e2, e3⟩ := prs_mem e
      exact ⟨w', x', e1, List.mem_cons_of_mem _ e2, List.mem_cons_of_mem _ e3⟩
theorem snoc_of {α : Type} {n : Nat} {xs : List α} (h : xs.length = n + 1) : ∃ ys l, xs = ys ++ [l] ∧ ys.length = n := by
  have hne : xs ≠ [] := by intro e; rw [e] at h; simp at h
  refine ⟨xs.dropLast, xs.getLast hne, (List.dropLast_concat_getLast hne).symm, by rw [List.length_dropLast, h]; rfl⟩
theorem mk_melt {w : Str} {ws : List Str} {xs : List D} {l : D} (h : xs.length = ws.length) : (Kd.melt w ws).mk (xs ++ [l]) = .tup [.str "melt", .str w, .tup (prs ws xs), l] := by
  show D.tup [.str "melt", .str w, .tup (List.zipWith (fun w d => D.tup [.str w, d]) ws (xs ++ [l])), (xs ++ [l]).getD ws.length .non] = _
  rw [zip_prs, prs_cut [l] h, ← h]
  have : (xs ++ [l]).getD xs.length .non = l := by
    rw [List.getD_eq_getElem?_getD, List.getElem?_append_right (Nat.le_refl _), Nat.sub_self]
    rfl
  rw [this]
/-- a comprehension over things that are told by others -/
theorem lcL_ts {α : Type} {own : List Nat} {g : FG} {fe : FE} (a b : α → D) (S0 : SS) : ∀ (ts : List α) (S : SS) (acc : List D), wipeS S own = S0 →
    (∀ t ∈ ts, ∃ S2, g (a t) S0 = some S2 ∧ (fe S2).wp fun o S4 => ∃ S5, force o S4 = some (b t, S5) ∧ wipeS S5 own = S0) →
    acc.length + ts.length ≤ line → ∃ S', lcL own g tTrue fe (ts.map a) S acc = .ok (acc ++ ts.map b) S' ∧ wipeS S' own = S0
  | [], S, acc, hS, _, _ => ⟨S, by simp [lcL], hS⟩
  | x :: ts, S, acc, hS, h, hl => by
    obtain ⟨S2, h1, h2⟩ := h x (List.mem_cons_self ..)
    have hr := fun y hy => h y (List.mem_cons_of_mem _ hy)
    simp only [List.length_cons] at hl
    obtain ⟨o, S4, e, S5, h3, h4⟩ := R.wp_ok' h2
    show ∃ S', (match g (a x) (wipeS S own) with
      | none => R.no
      | some S1 => (tTrue S1).bind fun b S2 => if b = true then (fe S2).bind fun o S3 => (match force o S3 with
          | some (x, S4) => if acc.length < line then lcL own g tTrue fe (ts.map a) S4 (acc ++ [x]) else .no
          | none => .no) else lcL own g tTrue fe (ts.map a) S2 acc) = _ ∧ wipeS S' own = S0
    rw [hS, h1]
    dsimp only
    have et : tTrue S2 = .ok true S2 := rfl
    rw [et, bind_ok, if_pos rfl, e, bind_ok, h3]
    dsimp only
    rw [if_pos (Nat.lt_of_lt_of_le (show acc.length < acc.length + (ts.length + 1) by omega) hl)]
    obtain ⟨S', e1, e2⟩ := lcL_ts a b S0 ts S5 (acc ++ [b x]) h4 hr (by rw [List.length_append, List.length_singleton]; omega)
    exact ⟨S', by rw [e1]; simp, e2⟩
theorem mLc_ts {α : Type} {own : List Nat} {fi : FI} {g : FG} {fe : FE} {S S1 : SS} {ts : List α} (a b : α → D) (h : fi S = .ok (ts.map a) S1)
    (hs : ∀ t ∈ ts, ∃ S2, g (a t) (wipeS S1 own) = some S2 ∧ (fe S2).wp fun o S4 => ∃ S5, force o S4 = some (b t, S5) ∧ wipeS S5 own = wipeS S1 own)
    (hl : ts.length ≤ line) : mLc own fi g tTrue fe S = .ok (.lst (ts.map b)) (restS S1 S1 own) := by
  unfold mLc
  rw [h, bind_ok]
  obtain ⟨S', e1, e2⟩ := lcL_ts a b (wipeS S1 own) ts S1 [] rfl hs (by simpa using hl)
  rw [e1, bind_ok, List.nil_append]
  rw [← restS_wipe S1 S', e2, restS_wipe]
noncomputable def Kd.nm : Kd → Str
  | .num _ => "number"
  | .tru _ => "truth"
  | .nam _ => "name"
  | .rai _ => "raise"
  | .do_ _ => "do"
  | .let_ _ => "let"
  | .pick _ => "pick"
  | .mark _ => "mark"
  | .many => "many"
  | .iff => "if"
  | .parts => "parts"
  | .loop _ _ => "loop"
  | .try_ _ => "try"
  | .call _ => "call"
  | .melt _ _ => "melt"
theorem atI_0 (x : D) (xs : List D) : atI (x :: xs) 0 = some x := atI_ok (by decide) rfl
theorem mk_0 (k : Kd) (ds : List D) : ixD (k.mk ds) (.int 0) = some (.d (.str k.nm)) := by
  cases k <;> simp [Kd.mk, Kd.nm, atI_0]
theorem nm_melt {k : Kd} (h : ∀ w ws, k ≠ .melt w ws) : (k.nm == ("melt" : Str)) = false := by
  cases k with
  | melt w ws => exact absurd rfl (h w ws)
  | _ => simp [Kd.nm]
theorem prs_zip : ∀ (ws : List Str) (ys : List Tr), prs ws (Tr.ds ys) = (List.zip ws ys).map fun p => D.tup [.str p.1, p.2.d]
  | [], _ => by unfold prs; rfl
  | _ :: _, [] => by unfold Tr.ds prs; rfl
  | w :: ws, y :: ys => by
    show D.tup [.str w, y.d] :: prs ws (Tr.ds ys) = _
    rw [prs_zip ws ys]
    rfl
theorem zip_mem {ws : List Str} {ys : List Tr} {p : Str × Tr} (h : p ∈ List.zip ws ys) : p.2 ∈ ys := (List.of_mem_zip (a := p.1) (b := p.2) h).2
theorem szs_app (xs ys : List Tr) : Tr.szs (xs ++ ys) = Tr.szs xs + Tr.szs ys := by
  induction xs with
  | nil => show Tr.szs ys = 0 + _; omega
  | cons x xs ih =>
    show x.sz + Tr.szs (xs ++ ys) = x.sz + Tr.szs xs + _
    rw [ih]
    omega
theorem sz_pos (t : Tr) : 1 ≤ t.sz := by
  cases t with
  | nd k xs => show 1 ≤ Tr.szs xs + 1; omega
theorem len_szs : ∀ xs : List Tr, xs.length ≤ Tr.szs xs
  | [] => Nat.le_refl _
  | x :: xs => by
    have h1 := sz_pos x
    have h2 := len_szs xs
    show xs.length + 1 ≤ x.sz + Tr.szs xs
    omega
theorem parts_of_eq (n : Nat) (k : Kd) (ds : List D) (h : k.ar ds.length) : den (n + 1) "parts_of" [.d (k.mk ds)] = .ok (.lst ds) [some (.d (k.mk ds))] := by
  refine eq_of_wp ?_
  rw [den_parts_of]
  refine run_wp rfl ?_
  unfold b_parts_of
  cases k with
  | num i => have h : ds.length = 0 := h; obtain rfl := List.length_eq_zero_iff.mp h; simp -dsimp [Kd.mk, List.replicate, inD_t4, inD_t2, cut_2n, cut_1n, cut_n2, cut_n1]
  | tru b => have h : ds.length = 0 := h; obtain rfl := List.length_eq_zero_iff.mp h; simp -dsimp [Kd.mk, List.replicate, inD_t4, inD_t2, cut_2n, cut_1n, cut_n2, cut_n1]
  | nam w => have h : ds.length = 0 := h; obtain rfl := List.length_eq_zero_iff.mp h; simp -dsimp [Kd.mk, List.replicate, inD_t4, inD_t2, cut_2n, cut_1n, cut_n2, cut_n1]
  | rai w => have h : ds.length = 0 := h; obtain rfl := List.length_eq_zero_iff.mp h; simp -dsimp [Kd.mk, List.replicate, inD_t4, inD_t2, cut_2n, cut_1n, cut_n2, cut_n1]
  | do_ w => have h : ds.length = 2 := h; obtain ⟨a, b, rfl⟩ := len2 h; simp -dsimp [Kd.mk, List.replicate, inD_t4, inD_t2, cut_2n, cut_1n, cut_n2, cut_n1]
  | let_ w => have h : ds.length = 2 := h; obtain ⟨a, b, rfl⟩ := len2 h; simp -dsimp [Kd.mk, List.replicate, inD_t4, inD_t2, cut_2n, cut_1n, cut_n2, cut_n1]
  | try_ w => have h : ds.length = 2 := h; obtain ⟨a, b, rfl⟩ := len2 h; simp -dsimp [Kd.mk, List.replicate, inD_t4, inD_t2, cut_2n, cut_1n, cut_n2, cut_n1]
  | pick i => have h : ds.length = 1 := h; obtain ⟨a, rfl⟩ := len1 h; simp -dsimp [Kd.mk, List.replicate, inD_t4, inD_t2, cut_2n, cut_1n, cut_n2, cut_n1]
  | mark i => have h : ds.length = 1 := h; obtain ⟨a, rfl⟩ := len1 h; simp -dsimp [Kd.mk, List.replicate, inD_t4, inD_t2, cut_2n, cut_1n, cut_n2, cut_n1]
  | many => have h : ds.length = 1 := h; obtain ⟨a, rfl⟩ := len1 h; simp -dsimp [Kd.mk, List.replicate, inD_t4, inD_t2, cut_2n, cut_1n, cut_n2, cut_n1]
  | iff => have h : ds.length = 3 := h; obtain ⟨a, b, c, rfl⟩ := len3 h; simp -dsimp [Kd.mk, List.replicate, inD_t4, inD_t2, cut_2n, cut_1n, cut_n2, cut_n1]
  | loop w w2 => have h : ds.length = 3 := h; obtain ⟨a, b, c, rfl⟩ := len3 h; simp -dsimp [Kd.mk, List.replicate, inD_t4, inD_t2, cut_2n, cut_1n, cut_n2, cut_n1]
  | parts => have h : ds.length ≤ 1000 := h; simp -dsimp [Kd.mk, List.replicate, inD_t4, inD_t2, cut_2n, cut_1n, cut_n2, cut_n1]
  | call w => have h : ds.length ≤ 1000 := h; simp -dsimp [Kd.mk, List.replicate, inD_t4, inD_t2, cut_2n, cut_1n, cut_n2, cut_n1]
  | melt w ws =>
    obtain ⟨h1, h2⟩ : ds.length = ws.length + 1 ∧ ws.length ≤ 1000 := h
    obtain ⟨xs, l, rfl, hx⟩ := snoc_of h1
    rw [mk_melt hx]
    have pl := prs_len hx
    obtain ⟨T, hT⟩ : ∃ T : D, T = .tup [.str "melt", .str w, .tup (prs ws xs), l] := ⟨_, rfl⟩
    have lc : mLc [1, 2] (iSeq (eM (mBin ixD (eN 0) (eC (.int 2))))) (gT 2 (gsCons (gN 1) (gsCons (gN 2) gsNil))) tTrue (eN 2) [some (.d (.tup [.str "melt", .str w, .tup (prs ws xs), l])), none, none] = .ok (.lst xs) [some (.d (.tup [.str "melt", .str w, .tup (prs ws xs), l])), none, none] := by
      have e2 := mLc_mapP (own := [1, 2]) (fi := iSeq (eM (mBin ixD (eN 0) (eC (.int 2))))) (g := gT 2 (gsCons (gN 1) (gsCons (gN 2) gsNil))) (fe := eN 2) (S := [some (.d (.tup [.str "melt", .str w, .tup (prs ws xs), l])), none, none]) (S1 := [some (.d (.tup [.str "melt", .str w, .tup (prs ws xs), l])), none, none]) (ds := prs ws xs) sndD (by simp -dsimp) (by
        intro d hd
        obtain ⟨w', x', rfl, _, _⟩ := prs_mem hd
        refine ⟨[some (.d (.tup [.str "melt", .str w, .tup (prs ws xs), l])), some (.d (.str w')), some (.d x')], rfl, ?_⟩
        simp -dsimp [wipeS, sndD]) (by rw [pl]; show ws.length ≤ 16777216; omega)
      rw [e2, prs_snd hx]
      rfl
    simp -dsimp [List.replicate, inD_t4, inD_t2, lc, show xs.length + 1 ≤ 16777216 by omega]
/-- signs that repr tells as they are -/
noncomputable def pc (c : Nat) : Bool := decide (42 ≤ c ∧ c < 92) || decide (97 ≤ c ∧ c < 123)
theorem pc_print : ∀ c, c < 123 → pc c = true → Unicode.isPrintable c = true := by decide +kernel
theorem pc_rng {c : Nat} (h : pc c = true) : 42 ≤ c ∧ c < 123 ∧ c ≠ 92 := by
  unfold pc at h
  rw [Bool.or_eq_true] at h
  rcases h with h | h
  · have := of_decide_eq_true h; omega
  · have := of_decide_eq_true h; omega
theorem reprChar_pc {q c : Nat} (hq : q = 34 ∨ q = 39) (h : pc c = true) : (Builtin.Str.reprChar q c).length = 1 := by
  obtain ⟨h1, h2, h3⟩ := pc_rng h
  have hp := pc_print c h2 h
  unfold Builtin.Str.reprChar
  have e1 : (c == q || c == 92) = false := by
    rw [Bool.or_eq_false_iff]
    constructor
    · simp; omega
    · simp; omega
  have e2 : (c == 10) = false := by simp; omega
  have e3 : (c == 13) = false := by simp; omega
  have e4 : (c == 9) = false := by simp; omega
  dsimp only
  rw [e1, e2, e3, e4, hp]
  rfl
noncomputable def pcs (x : Str) : Bool := (tl x).all pc
theorem reprText_pc (x : Str) (h : pcs x = true) : (reprText x).length = x.length + 2 := by
  rw [← reprLen_eq, ← Array.foldl_toList]
  have hq : reprQuote x = 34 ∨ reprQuote x = 39 := by
    unfold reprQuote
    split
    · exact .inl rfl
    · exact .inr rfl
  have key : ∀ (l : List Nat) (n : Nat), (∀ c ∈ l, pc c = true) → l.foldl (fun n c => n + (Builtin.Str.reprChar (reprQuote x) c).length) n = n + l.length := by
    intro l
    induction l with
    | nil => intro n _; rfl
    | cons c l ih =>
      intro n hl
      rw [List.foldl_cons, ih _ fun d hd => hl d (List.mem_cons_of_mem _ hd), reprChar_pc hq (hl c (List.mem_cons_self ..)), List.length_cons]
      omega
  have e := key (tl x) 2 (List.all_eq_true.mp h)
  have e2 : x.length = (tl x).length := tl_len x
  rw [e2]
  show (tl x).foldl _ 2 = _
  rw [e]
  omega
mutual
noncomputable def D.pct : D → Nat
  | .int _ => 25
  | .str x => x.length + 4
  | .tup xs => D.pcts xs + 3
  | .lst xs => D.pcts xs + 3
  | _ => 5
noncomputable def D.pcts : List D → Nat
  | [] => 0
  | x :: xs => D.pct x + 2 + D.pcts xs
end
mutual
noncomputable def D.pft : D → Bool
  | .non => true
  | .bl _ => true
  | .int i => decide (-18446744073709551616 < i ∧ i < 18446744073709551616)
  | .str x => pcs x
  | .tup xs => D.pfts xs
  | .lst xs => D.pfts xs
  | _ => false
noncomputable def D.pfts : List D → Bool
  | [] => true
  | x :: xs => D.pft x && D.pfts xs
end
mutual
theorem pft_ok : ∀ d : D, d.pft = true → d.pl = true ∧ d.py.showable = true ∧ (d.py.shown).length ≤ d.pct
  | .non, _ => ⟨rfl, rfl, by show ("None" : Str).length ≤ 5; decide +kernel⟩
  | .bl b, _ => ⟨rfl, rfl, by cases b <;> decide +kernel⟩
  | .int i, h => fit_ok (.int i) h
  | .str x, h => by
    refine ⟨rfl, rfl, ?_⟩
    have e := reprText_pc x h
    show (reprText x).length ≤ x.length + 4
    omega
  | .tup xs, h => by
    obtain ⟨h1, h2, h3⟩ := pfts_ok xs h
    refine ⟨h1, h2, ?_⟩
    have e := fmt_text (PyData.shownAll (D.pys xs))
    show (tupleText (PyData.shownAll (D.pys xs))).length ≤ D.pcts xs + 3
    omega
  | .lst xs, h => by
    obtain ⟨h1, h2, h3⟩ := pfts_ok xs h
    refine ⟨h1, h2, ?_⟩
    have e := listText_le (PyData.shownAll (D.pys xs))
    show (listText (PyData.shownAll (D.pys xs))).length ≤ D.pcts xs + 3
    omega
theorem pfts_ok : ∀ xs : List D, D.pfts xs = true → D.pls xs = true ∧ PyData.showableAll (D.pys xs) = true ∧ piled (PyData.shownAll (D.pys xs)) ≤ D.pcts xs
  | [], _ => ⟨rfl, rfl, Nat.le_refl _⟩
  | x :: xs, h => by
    have h : (D.pft x && D.pfts xs) = true := h
    rw [Bool.and_eq_true] at h
    obtain ⟨a1, a2, a3⟩ := pft_ok x h.1
    obtain ⟨b1, b2, b3⟩ := pfts_ok xs h.2
    refine ⟨?_, ?_, ?_⟩
    · show (D.pl x && D.pls xs) = true
      rw [a1, b1]; rfl
    · show (PyData.showable (D.py x) && PyData.showableAll (D.pys xs)) = true
      rw [a2, b2]; rfl
    · show piled (PyData.shown (D.py x) :: PyData.shownAll (D.pys xs)) ≤ D.pct x + 2 + D.pcts xs
      rw [piled_cons]
      omega
end
theorem rpOk_pc {d : D} (h : d.pft = true) (h2 : d.dep ≤ 196) (h3 : d.pct ≤ 16777216) : rpOk d = true := by
  obtain ⟨a1, a2, a3⟩ := pft_ok d h
  unfold rpOk
  rw [a1, a2, decide_eq_true h2, decide_eq_true (show (rp d).length ≤ 16777216 from Nat.le_trans a3 h3)]
  rfl
@[simp] theorem pct_int (i : Int) : D.pct (.int i) = 25 := (rfl)
@[simp] theorem pct_bl (b : Bool) : D.pct (.bl b) = 5 := (rfl)
@[simp] theorem pct_str (x : Str) : D.pct (.str x) = x.length + 4 := (rfl)
@[simp] theorem pct_tup (xs : List D) : D.pct (.tup xs) = D.pcts xs + 3 := (rfl)
@[simp] theorem pct_lst (xs : List D) : D.pct (.lst xs) = D.pcts xs + 3 := (rfl)
@[simp] theorem pcts_n : D.pcts [] = 0 := (rfl)
@[simp] theorem pcts_c (x : D) (xs : List D) : D.pcts (x :: xs) = D.pct x + 2 + D.pcts xs := (rfl)
theorem pcts_app (xs ys : List D) : D.pcts (xs ++ ys) = D.pcts xs + D.pcts ys := by
  induction xs with
  | nil => simp
  | cons x xs ih => rw [List.cons_append, pcts_c, pcts_c, ih]; omega
theorem pfts_app (xs ys : List D) : D.pfts (xs ++ ys) = (D.pfts xs && D.pfts ys) := by
  induction xs with
  | nil => rfl
  | cons x xs ih =>
    show (D.pft x && D.pfts (xs ++ ys)) = (D.pft x && D.pfts xs && D.pfts ys)
    rw [ih, Bool.and_assoc]
noncomputable def Wd (w : Str) : Prop := pcs w = true ∧ w.length ≤ 12
noncomputable def Kd.wk : Kd → Prop
  | .num i | .pick i | .mark i => 0 ≤ i ∧ i ≤ 1000000000
  | .nam w | .rai w | .do_ w | .let_ w | .try_ w | .call w => Wd w
  | .loop w w2 => Wd w ∧ Wd w2
  | .melt w ws => Wd w ∧ ∀ v ∈ ws, Wd v
  | .tru _ | .many | .iff | .parts => True
mutual
noncomputable def Tr.wk : Tr → Prop
  | .nd k xs => k.wk ∧ Tr.wks xs
noncomputable def Tr.wks : List Tr → Prop
  | [] => True
  | x :: xs => x.wk ∧ Tr.wks xs
end
theorem wks_mem : ∀ {xs : List Tr}, Tr.wks xs → ∀ x ∈ xs, x.wk
  | [], _, x, h => by simp at h
  | y :: ys, ⟨h1, h2⟩, x, h => by
    rcases List.mem_cons.mp h with e | e
    · rw [e]; exact h1
    · exact wks_mem h2 x e
theorem wks_of : ∀ {xs : List Tr}, (∀ x ∈ xs, x.wk) → Tr.wks xs
  | [], _ => trivial
  | y :: ys, h => ⟨h y (List.mem_cons_self ..), wks_of fun x hx => h x (List.mem_cons_of_mem _ hx)⟩
theorem prs_pct : ∀ {ws : List Str} {ds : List D}, ds.length = ws.length → (∀ v ∈ ws, Wd v) → D.pcts (prs ws ds) ≤ D.pcts ds + 23 * ws.length
  | [], [], _, _ => by unfold prs; simp
  | w :: ws, d :: ds, h, hw => by
    have ih := prs_pct (ws := ws) (ds := ds) (by simpa using h) fun v hv => hw v (List.mem_cons_of_mem _ hv)
    have h1 := (hw w (List.mem_cons_self ..)).2
    show D.pcts (D.tup [.str w, d] :: prs ws ds) ≤ _
    rw [pcts_c, pct_tup, pcts_c, pcts_c, pct_str, pcts_n, pcts_c, List.length_cons]
    omega
theorem prs_pft : ∀ {ws : List Str} {ds : List D}, ds.length = ws.length → (∀ v ∈ ws, Wd v) → D.pfts ds = true → D.pfts (prs ws ds) = true
  | [], [], _, _, _ => rfl
  | w :: ws, d :: ds, h, hw, hd => by
    have hd : (D.pft d && D.pfts ds) = true := hd
    rw [Bool.and_eq_true] at hd
    have ih := prs_pft (ws := ws) (ds := ds) (by simpa using h) (fun v hv => hw v (List.mem_cons_of_mem _ hv)) hd.2
    have h1 := (hw w (List.mem_cons_self ..)).1
    show ((pcs w && (D.pft d && true)) && D.pfts (prs ws ds)) = true
    rw [h1, hd.1, ih]
    rfl
theorem prs_dep : ∀ {ws : List Str} {ds : List D} {n : Nat}, D.deps ds ≤ n → D.deps (prs ws ds) ≤ n + 1
  | [], _, n, _ => by unfold prs; exact Nat.zero_le _
  | _ :: _, [], n, _ => by unfold prs; exact Nat.zero_le _
  | w :: ws, d :: ds, n, h => by
    have h : max (D.dep d) (D.deps ds) ≤ n := h
    have ih := prs_dep (ws := ws) (ds := ds) (n := n) (by omega)
    show max (max 0 (max (D.dep d) 0) + 1) (D.deps (prs ws ds)) ≤ n + 1
    omega
theorem nms : ("number" : Str).length = 6 ∧ ("truth" : Str).length = 5 ∧ ("name" : Str).length = 4 ∧ ("raise" : Str).length = 5 ∧ ("do" : Str).length = 2 ∧ ("let" : Str).length = 3 ∧ ("pick" : Str).length = 4 ∧ ("mark" : Str).length = 4 ∧ ("many" : Str).length = 4 ∧ ("if" : Str).length = 2 ∧ ("parts" : Str).length = 5 ∧ ("loop" : Str).length = 4 ∧ ("try" : Str).length = 3 ∧ ("call" : Str).length = 4 ∧ ("melt" : Str).length = 4 := by decide +kernel
theorem mk_pct (k : Kd) (ds : List D) (h : k.ar ds.length) (hw : k.wk) : (k.mk ds).pct ≤ D.pcts ds + 23 * ds.length + 52 := by
  obtain ⟨n1, n2, n3, n4, n5, n6, n7, n8, n9, n10, n11, n12, n13, n14, n15⟩ := nms
  cases k with
  | num i => show D.pct (.tup [.str "number", .int i]) ≤ _; simp only [pct_tup, pcts_c, pct_str, pct_int, pcts_n, n1]; omega
  | tru b => show D.pct (.tup [.str "truth", .bl b]) ≤ _; simp only [pct_tup, pcts_c, pct_str, pct_bl, pcts_n, n2]; omega
  | nam w => have h1 := hw.2; show D.pct (.tup [.str "name", .str w]) ≤ _; simp only [pct_tup, pcts_c, pct_str, pcts_n, n3]; omega
  | rai w => have h1 := hw.2; show D.pct (.tup [.str "raise", .str w]) ≤ _; simp only [pct_tup, pcts_c, pct_str, pcts_n, n4]; omega
  | do_ w => have h1 := hw.2; show D.pct (.tup (.str "do" :: .str w :: ds)) ≤ _; simp only [pct_tup, pcts_c, pct_str, n5]; omega
  | let_ w => have h1 := hw.2; show D.pct (.tup (.str "let" :: .str w :: ds)) ≤ _; simp only [pct_tup, pcts_c, pct_str, n6]; omega
  | pick i => show D.pct (.tup (.str "pick" :: .int i :: ds)) ≤ _; simp only [pct_tup, pcts_c, pct_str, pct_int, n7]; omega
  | mark i => show D.pct (.tup (.str "mark" :: .int i :: ds)) ≤ _; simp only [pct_tup, pcts_c, pct_str, pct_int, n8]; omega
  | many => show D.pct (.tup (.str "many" :: ds)) ≤ _; simp only [pct_tup, pcts_c, pct_str, n9]; omega
  | iff => show D.pct (.tup (.str "if" :: ds)) ≤ _; simp only [pct_tup, pcts_c, pct_str, n10]; omega
  | parts => show D.pct (.tup [.str "parts", .tup ds]) ≤ _; simp only [pct_tup, pcts_c, pct_str, pcts_n, n11]; omega
  | loop w w2 =>
    obtain ⟨a, b, c, rfl⟩ := len3 (show ds.length = 3 from h)
    have h1 := hw.1.2
    have h2 := hw.2.2
    show D.pct (.tup [.str "loop", .str w, a, .str w2, b, c]) ≤ _
    simp only [pct_tup, pcts_c, pct_str, pcts_n, n12]
    omega
  | try_ w =>
    obtain ⟨a, b, rfl⟩ := len2 (show ds.length = 2 from h)
    have h1 := hw.2
    show D.pct (.tup [.str "try", a, .str w, b]) ≤ _
    simp only [pct_tup, pcts_c, pct_str, pcts_n, n13]
    omega
  | call w => have h1 := hw.2; show D.pct (.tup [.str "call", .str w, .tup ds]) ≤ _; simp only [pct_tup, pcts_c, pct_str, pcts_n, n14]; omega
  | melt w ws =>
    obtain ⟨h1, h2⟩ : ds.length = ws.length + 1 ∧ ws.length ≤ 1000 := h
    obtain ⟨xs, l, rfl, hx⟩ := snoc_of h1
    have hw1 := hw.1.2
    have hp := prs_pct hx hw.2
    rw [mk_melt hx, pcts_app, List.length_append, hx]
    simp only [pct_tup, pcts_c, pct_str, pcts_n, n15, List.length_singleton]
    omega
theorem nmp : pcs "number" = true ∧ pcs "truth" = true ∧ pcs "name" = true ∧ pcs "raise" = true ∧ pcs "do" = true ∧ pcs "let" = true ∧ pcs "pick" = true ∧ pcs "mark" = true ∧ pcs "many" = true ∧ pcs "if" = true ∧ pcs "parts" = true ∧ pcs "loop" = true ∧ pcs "try" = true ∧ pcs "call" = true ∧ pcs "melt" = true := by decide +kernel
@[simp] theorem pft_bl (b : Bool) : D.pft (.bl b) = true := (rfl)
@[simp] theorem pft_int (i : Int) : D.pft (.int i) = decide (-18446744073709551616 < i ∧ i < 18446744073709551616) := (rfl)
@[simp] theorem pft_str (x : Str) : D.pft (.str x) = pcs x := (rfl)
@[simp] theorem pft_tup (xs : List D) : D.pft (.tup xs) = D.pfts xs := (rfl)
@[simp] theorem pft_lst (xs : List D) : D.pft (.lst xs) = D.pfts xs := (rfl)
@[simp] theorem pfts_n : D.pfts [] = true := (rfl)
@[simp] theorem pfts_c (x : D) (xs : List D) : D.pfts (x :: xs) = (D.pft x && D.pfts xs) := (rfl)
theorem mk_pft (k : Kd) (ds : List D) (h : k.ar ds.length) (hw : k.wk) (hd : D.pfts ds = true) : (k.mk ds).pft = true := by
  obtain ⟨n1, n2, n3, n4, n5, n6, n7, n8, n9, n10, n11, n12, n13, n14, n15⟩ := nmp
  have ii : ∀ i : Int, 0 ≤ i ∧ i ≤ 1000000000 → decide (-18446744073709551616 < i ∧ i < 18446744073709551616) = true := fun i hi => decide_eq_true (by omega)
  cases k with
  | num i => show D.pft (.tup [.str "number", .int i]) = true; simp only [pft_tup, pfts_c, pft_str, pft_int, pfts_n, n1, ii i hw]; rfl
  | tru b => show D.pft (.tup [.str "truth", .bl b]) = true; simp only [pft_tup, pfts_c, pft_str, pft_bl, pfts_n, n2]; rfl
  | nam w => show D.pft (.tup [.str "name", .str w]) = true; simp only [pft_tup, pfts_c, pft_str, pfts_n, n3, hw.1]; rfl
  | rai w => show D.pft (.tup [.str "raise", .str w]) = true; simp only [pft_tup, pfts_c, pft_str, pfts_n, n4, hw.1]; rfl
  | do_ w => show D.pft (.tup (.str "do" :: .str w :: ds)) = true; simp only [pft_tup, pfts_c, pft_str, n5, hw.1, hd]; rfl
  | let_ w => show D.pft (.tup (.str "let" :: .str w :: ds)) = true; simp only [pft_tup, pfts_c, pft_str, n6, hw.1, hd]; rfl
  | pick i => show D.pft (.tup (.str "pick" :: .int i :: ds)) = true; simp only [pft_tup, pfts_c, pft_str, pft_int, n7, ii i hw, hd]; rfl
  | mark i => show D.pft (.tup (.str "mark" :: .int i :: ds)) = true; simp only [pft_tup, pfts_c, pft_str, pft_int, n8, ii i hw, hd]; rfl
  | many => show D.pft (.tup (.str "many" :: ds)) = true; simp only [pft_tup, pfts_c, pft_str, n9, hd]; rfl
  | iff => show D.pft (.tup (.str "if" :: ds)) = true; simp only [pft_tup, pfts_c, pft_str, n10, hd]; rfl
  | parts => show D.pft (.tup [.str "parts", .tup ds]) = true; simp only [pft_tup, pfts_c, pft_str, pfts_n, n11, hd]; rfl
  | loop w w2 =>
    obtain ⟨a, b, c, rfl⟩ := len3 (show ds.length = 3 from h)
    simp only [pfts_c, pfts_n, Bool.and_true, Bool.and_eq_true] at hd
    show D.pft (.tup [.str "loop", .str w, a, .str w2, b, c]) = true
    simp only [pft_tup, pfts_c, pft_str, pfts_n, n12, hw.1.1, hw.2.1, hd.1, hd.2.1, hd.2.2]; rfl
  | try_ w =>
    obtain ⟨a, b, rfl⟩ := len2 (show ds.length = 2 from h)
    simp only [pfts_c, pfts_n, Bool.and_true, Bool.and_eq_true] at hd
    show D.pft (.tup [.str "try", a, .str w, b]) = true
    simp only [pft_tup, pfts_c, pft_str, pfts_n, n13, hw.1, hd.1, hd.2]; rfl
  | call w => show D.pft (.tup [.str "call", .str w, .tup ds]) = true; simp only [pft_tup, pfts_c, pft_str, pfts_n, n14, hw.1, hd]; rfl
  | melt w ws =>
    obtain ⟨h1, h2⟩ : ds.length = ws.length + 1 ∧ ws.length ≤ 1000 := h
    obtain ⟨xs, l, rfl, hx⟩ := snoc_of h1
    rw [pfts_app, Bool.and_eq_true] at hd
    have hp := prs_pft hx hw.2 hd.1
    have hl : D.pft l = true := by simpa using hd.2
    rw [mk_melt hx]
    simp only [pft_tup, pfts_c, pft_str, pfts_n, n15, hw.1.1, hp, hl]; rfl
theorem mk_dep (k : Kd) (ds : List D) (n : Nat) (h : k.ar ds.length) (hd : D.deps ds ≤ n) : (k.mk ds).dep ≤ n + 3 := by
  cases k with
  | loop w w2 =>
    obtain ⟨a, b, c, rfl⟩ := len3 (show ds.length = 3 from h)
    have hd : max (D.dep a) (max (D.dep b) (max (D.dep c) 0)) ≤ n := hd
    show max 0 (max 0 (max (D.dep a) (max 0 (max (D.dep b) (max (D.dep c) 0))))) + 1 ≤ n + 3
    omega
  | try_ w =>
    obtain ⟨a, b, rfl⟩ := len2 (show ds.length = 2 from h)
    have hd : max (D.dep a) (max (D.dep b) 0) ≤ n := hd
    show max 0 (max (D.dep a) (max 0 (max (D.dep b) 0))) + 1 ≤ n + 3
    omega
  | melt w ws =>
    obtain ⟨h1, h2⟩ : ds.length = ws.length + 1 ∧ ws.length ≤ 1000 := h
    obtain ⟨xs, l, rfl, hx⟩ := snoc_of h1
    have hx1 : D.deps xs ≤ n := deps_of fun d hd' => by
      obtain ⟨p, q, rfl⟩ := List.append_of_mem hd'
      have : ∀ zs : List D, D.deps (zs ++ (d :: (q ++ [l]))) ≤ n → D.dep d ≤ n := by
        intro zs
        induction zs with
        | nil => intro h; have h : max (D.dep d) _ ≤ n := h; omega
        | cons z zs ih => intro h; have h : max (D.dep z) (D.deps (zs ++ (d :: (q ++ [l])))) ≤ n := h; exact ih (by omega)
      exact this p (by simpa using hd)
    have hl1 : D.dep l ≤ n := by
      have : ∀ zs : List D, D.deps (zs ++ [l]) ≤ n → D.dep l ≤ n := by
        intro zs
        induction zs with
        | nil => intro h; have h : max (D.dep l) 0 ≤ n := h; omega
        | cons z zs ih => intro h; have h : max (D.dep z) (D.deps (zs ++ [l])) ≤ n := h; exact ih (by omega)
      exact this xs hd
    have hp := prs_dep (ws := ws) hx1
    rw [mk_melt hx]
    show max 0 (max 0 (max (D.deps (prs ws xs) + 1) (max (D.dep l) 0))) + 1 ≤ n + 3
    omega
  | num i => show max 0 (max 0 0) + 1 ≤ n + 3; omega
  | tru i => show max 0 (max 0 0) + 1 ≤ n + 3; omega
  | nam i => show max 0 (max 0 0) + 1 ≤ n + 3; omega
  | rai i => show max 0 (max 0 0) + 1 ≤ n + 3; omega
  | do_ i => show max 0 (max 0 (D.deps ds)) + 1 ≤ n + 3; omega
  | let_ i => show max 0 (max 0 (D.deps ds)) + 1 ≤ n + 3; omega
  | pick i => show max 0 (max 0 (D.deps ds)) + 1 ≤ n + 3; omega
  | mark i => show max 0 (max 0 (D.deps ds)) + 1 ≤ n + 3; omega
  | many => show max 0 (D.deps ds) + 1 ≤ n + 3; omega
  | iff => show max 0 (D.deps ds) + 1 ≤ n + 3; omega
  | parts => show max 0 (max (D.deps ds + 1) 0) + 1 ≤ n + 3; omega
  | call w => show max 0 (max 0 (max (D.deps ds + 1) 0)) + 1 ≤ n + 3; omega
mutual
theorem tr_pct : ∀ t : Tr, t.ok → t.wk → t.d.pct + 25 ≤ 80 * t.sz
  | .nd k xs, h, hw => by
    obtain ⟨ha, ho⟩ : k.ar xs.length ∧ Tr.oks xs := h
    obtain ⟨kw, xw⟩ : k.wk ∧ Tr.wks xs := hw
    have h1 := trs_pct xs ho xw
    have h2 := mk_pct k (Tr.ds xs) (by rw [ds_len]; exact ha) kw
    rw [ds_len] at h2
    show (k.mk (Tr.ds xs)).pct + 25 ≤ 80 * (Tr.szs xs + 1)
    omega
theorem trs_pct : ∀ xs : List Tr, Tr.oks xs → Tr.wks xs → D.pcts (Tr.ds xs) + 23 * xs.length ≤ 80 * Tr.szs xs
  | [], _, _ => Nat.le_refl _
  | x :: xs, ⟨h1, h2⟩, ⟨w1, w2⟩ => by
    have a := tr_pct x h1 w1
    have b := trs_pct xs h2 w2
    show D.pct x.d + 2 + D.pcts (Tr.ds xs) + 23 * (xs.length + 1) ≤ 80 * (x.sz + Tr.szs xs)
    omega
end
mutual
theorem tr_pft : ∀ t : Tr, t.ok → t.wk → t.d.pft = true
  | .nd k xs, h, hw => by
    obtain ⟨ha, ho⟩ : k.ar xs.length ∧ Tr.oks xs := h
    obtain ⟨kw, xw⟩ : k.wk ∧ Tr.wks xs := hw
    exact mk_pft k (Tr.ds xs) (by rw [ds_len]; exact ha) kw (trs_pft xs ho xw)
theorem trs_pft : ∀ xs : List Tr, Tr.oks xs → Tr.wks xs → D.pfts (Tr.ds xs) = true
  | [], _, _ => rfl
  | x :: xs, ⟨h1, h2⟩, ⟨w1, w2⟩ => by
    show (D.pft x.d && D.pfts (Tr.ds xs)) = true
    rw [tr_pft x h1 w1, trs_pft xs h2 w2]
    rfl
end
mutual
theorem tr_dep : ∀ t : Tr, t.ok → t.d.dep + 1 ≤ 3 * t.dep
  | .nd k xs, h => by
    obtain ⟨ha, ho⟩ : k.ar xs.length ∧ Tr.oks xs := h
    have h1 := trs_dep xs ho
    show (k.mk (Tr.ds xs)).dep + 1 ≤ 3 * (Tr.deps xs + 1)
    cases xs with
    | nil =>
      have : (k.mk (Tr.ds [])).dep ≤ 2 := by
        cases k with
        | do_ w => exact absurd (show (0 : Nat) = 2 from ha) (by decide)
        | let_ w => exact absurd (show (0 : Nat) = 2 from ha) (by decide)
        | try_ w => exact absurd (show (0 : Nat) = 2 from ha) (by decide)
        | pick w => exact absurd (show (0 : Nat) = 1 from ha) (by decide)
        | mark w => exact absurd (show (0 : Nat) = 1 from ha) (by decide)
        | many => exact absurd (show (0 : Nat) = 1 from ha) (by decide)
        | iff => exact absurd (show (0 : Nat) = 3 from ha) (by decide)
        | loop w w2 => exact absurd (show (0 : Nat) = 3 from ha) (by decide)
        | melt w ws =>
          obtain ⟨h1, h2⟩ : (0 : Nat) = ws.length + 1 ∧ ws.length ≤ 1000 := ha
          omega
        | _ => first | exact Nat.le_refl 2 | exact Nat.le_succ 1
      omega
    | cons x xs =>
      have h2 := mk_dep k (Tr.ds (x :: xs)) (3 * Tr.deps (x :: xs) - 1) (by rw [ds_len]; exact ha) (by omega)
      have h3 : 1 ≤ Tr.deps (x :: xs) := by
        cases x with
        | nd k2 ys => show 1 ≤ max (Tr.deps ys + 1) (Tr.deps xs); omega
      omega
theorem trs_dep : ∀ xs : List Tr, Tr.oks xs → D.deps (Tr.ds xs) ≤ 3 * Tr.deps xs - 1
  | [], _ => Nat.zero_le _
  | x :: xs, ⟨h1, h2⟩ => by
    have a := tr_dep x h1
    have b := trs_dep xs h2
    show max (D.dep x.d) (D.deps (Tr.ds xs)) ≤ 3 * max x.dep (Tr.deps xs) - 1
    omega
end
/-- what the law may ask repr of -/
structure Good (t : Tr) : Prop where
  ok : t.ok
  wk : t.wk
  dep : t.dep ≤ 64
  sz : t.sz ≤ 2000
theorem Good.rp {t : Tr} (h : Good t) : rpOk t.d = true := by
  have h1 := tr_pct t h.ok h.wk
  have h2 := tr_dep t h.ok
  have h3 := h.dep
  have h4 := h.sz
  exact rpOk_pc (tr_pft t h.ok h.wk) (by omega) (by omega)
theorem abc_at (i : Int) (h0 : 0 ≤ i) (h1 : i < 26) : ∃ c : Nat, atI (Str.cps "abcdefghijklmnopqrstuvwxyz").toList i = some c ∧ 97 ≤ c ∧ c ≤ 122 := by
  have e : (Str.cps "abcdefghijklmnopqrstuvwxyz").toList = (List.range 26).map (97 + ·) := by decide +kernel
  refine ⟨97 + i.toNat, atI_ok h0 ?_, by omega, by omega⟩
  rw [e, List.getElem?_map, List.getElem?_range (by omega)]
  rfl
theorem abc_len : (Str.length "abcdefghijklmnopqrstuvwxyz") ≤ 16777216 := by decide +kernel
theorem pc_abc {c : Nat} (h : 97 ≤ c ∧ c ≤ 122) : pc c = true := by
  unfold pc
  rw [Bool.or_eq_true]
  exact .inr (decide_eq_true (by omega))
theorem pcs_rep {c : Nat} (h : 97 ≤ c ∧ c ≤ 122) (k : Nat) : pcs (repS ⟨#[c]⟩ k) = true := by
  unfold pcs
  rw [tl_rep, List.all_eq_true]
  intro x hx
  obtain ⟨l, hl, hx⟩ := List.mem_flatten.mp hx
  obtain ⟨_, rfl⟩ := List.mem_replicate.mp hl
  rw [tl_one] at hx
  rw [List.mem_singleton.mp hx]
  exact pc_abc h
theorem pcs_app (x y : Str) : pcs (x ++ y) = (pcs x && pcs y) := by
  unfold pcs
  rw [tl_app, List.all_append]
theorem pcs_cut {x : Str} (h : pcs x = true) (lo hi : Option Int) : pcs (cutS x lo hi) = true := by
  unfold pcs at *
  rw [List.all_eq_true] at *
  exact fun c hc => h c (cutS_mem hc)
noncomputable def TLS : List Str := ["", "1", "2", "12", "10", "3", "20", "100", "11", "9", "999", "21"]
noncomputable def KPS : List Str := ["kind", "far", "nought", "lack", "told", "dry", "refused", "name", "call", "number", "do", "truth", "root"]
theorem TLS_ok : ∀ w ∈ TLS, pcs w = true ∧ w.length ≤ 3 := by decide +kernel
theorem KPS_ok : ∀ w ∈ KPS, pcs w = true ∧ w.length ≤ 8 := by decide +kernel
/-- a list turned, its first five -/
theorem turned {xs : List Str} {t : Int} (h0 : 0 ≤ t) (h1 : t ≤ (xs.length : Int)) (h5 : 5 ≤ xs.length) :
    (cutL xs (some t) none).length + (cutL xs none (some t)).length = xs.length ∧
    (cutL (cutL xs (some t) none ++ cutL xs none (some t)) none (some 5)).length = 5 ∧ ∀ w ∈ cutL (cutL xs (some t) none ++ cutL xs none (some t)) none (some 5), w ∈ xs := by
  obtain ⟨n, rfl⟩ : ∃ n : Nat, t = (n : Int) := ⟨t.toNat, by omega⟩
  have e1 : (cutL xs (some (n : Int)) none).length = xs.length - n := by
    unfold cutL
    rw [HT.sIx_nat, HT.sIx_none, List.length_take, List.length_drop]
    omega
  have e2 : (cutL xs none (some (n : Int))).length = n := by
    unfold cutL
    rw [HT.sIx_nat, HT.sIx_none, List.length_take, List.length_drop]
    omega
  refine ⟨by omega, ?_, fun w hw => ?_⟩
  · obtain ⟨ys, hys⟩ : ∃ ys, ys = cutL xs (some (n : Int)) none ++ cutL xs none (some (n : Int)) := ⟨_, rfl⟩
    have ly : ys.length = xs.length := by rw [hys, List.length_append]; omega
    rw [← hys]
    unfold cutL
    rw [show (some (5 : Int)) = some ((5 : Nat) : Int) from rfl, HT.sIx_nat, HT.sIx_none, List.length_take, List.length_drop]
    omega
  · rcases List.mem_append.mp (cutL_mem hw) with h | h
    · exact cutL_mem h
    · exact cutL_mem h
theorem abc_is (i : Int) (h0 : 0 ≤ i) (h1 : i < 26) : atI (Str.cps "abcdefghijklmnopqrstuvwxyz").toList i = some (97 + i.toNat) := by
  have e : (Str.cps "abcdefghijklmnopqrstuvwxyz").toList = (List.range 26).map (97 + ·) := by decide +kernel
  refine atI_ok h0 ?_
  rw [e, List.getElem?_map, List.getElem?_range (by omega)]
  rfl
theorem pcs_one {c : Nat} (h : 97 ≤ c ∧ c ≤ 122) : pcs ⟨#[c]⟩ = true := by
  unfold pcs
  rw [tl_one]
  show (pc c && true) = true
  rw [pc_abc h]
  rfl
theorem cutS_ahead (x : Str) (n : Nat) (h : n ≤ x.length) : (cutS x none (some (n : Int))).length = n := by
  have e : (tl x).length = x.length := (tl_len x).symm
  rw [tl_len, cutS_tl, HT.sIx_nat, HT.sIx_none, List.length_take, List.length_drop, e]
  omega
theorem cutS_behind (x : Str) (n : Nat) (h : n ≤ x.length) : (cutS x (some (n : Int)) none).length = x.length - n := by
  have e : (tl x).length = x.length := (tl_len x).symm
  rw [tl_len, cutS_tl, HT.sIx_nat, HT.sIx_none, List.length_take, List.length_drop, e]
  omega
theorem rng5 : rangeD 0 5 = (List.range 5).map fun i : Nat => D.int (i : Int) := by
  unfold rangeD
  apply List.map_congr_left
  intro i _
  rw [Int.zero_add]
@[simp] theorem lenD_s (x : Str) : lenD (.str x) = if x.length ≤ line then some (.d (.int x.length)) else none := (rfl)
theorem strIn_one (c : Nat) (z : Str) : strIn ⟨#[c]⟩ z = decide (c ∈ tl z) := PySem.StrLaws.found_one z c
noncomputable def LE26 : List Nat := [97, 98, 99, 100, 101, 102, 103, 104, 105, 106, 107, 108, 109, 110, 111, 112, 113, 114, 115, 116, 117, 118, 119, 120, 121, 122]
noncomputable def FG10 : List Nat := [48, 49, 50, 51, 52, 53, 54, 55, 56, 57]
theorem tl_LE : tl "abcdefghijklmnopqrstuvwxyz" = LE26 := by decide +kernel
theorem tl_FG : tl "0123456789" = FG10 := by decide +kernel
theorem tl_0 : tl "0" = [48] := by decide +kernel
theorem tl_e : tl "" = [] := by decide +kernel
noncomputable def isLe (c : Nat) : Bool := decide (c ∈ LE26)
noncomputable def isFi (c : Nat) : Bool := decide (c ∈ FG10)
theorem isLe_iff (c : Nat) : isLe c = decide (97 ≤ c ∧ c ≤ 122) := by
  by_cases h : c < 123
  · have h1 : ∀ c, c < 123 → isLe c = decide (97 ≤ c ∧ c ≤ 122) := by decide +kernel
    exact h1 c h
  · have h2 : ∀ x ∈ LE26, x < 123 := by decide +kernel
    rw [decide_eq_false (show ¬ (97 ≤ c ∧ c ≤ 122) by omega)]
    unfold isLe
    exact decide_eq_false fun hc => h (h2 c hc)
theorem isFi_iff (c : Nat) : isFi c = decide (48 ≤ c ∧ c ≤ 57) := by
  by_cases h : c < 58
  · have h1 : ∀ c, c < 58 → isFi c = decide (48 ≤ c ∧ c ≤ 57) := by decide +kernel
    exact h1 c h
  · have h2 : ∀ x ∈ FG10, x < 58 := by decide +kernel
    rw [decide_eq_false (show ¬ (48 ≤ c ∧ c ≤ 57) by omega)]
    unfold isFi
    exact decide_eq_false fun hc => h (h2 c hc)
noncomputable def KP : List Str := ["yes", "no", "if", "let", "loop", "raise", "try", "pick", "many", "parts", "mark", "melt", "def"]
theorem KEPT_eq : c_KEPT = .tup (KP.map D.str) := rfl
theorem inD_strT (x : Str) (ws : List Str) : inD (.str x) (.tup (ws.map .str)) = some (.d (.bl (decide (x ∈ ws)))) := by
  show (if inOk (.str x) (ws.map .str) = true then some (M.d (.bl ((ws.map D.str).any fun y => D.eqb y (.str x)))) else none) = _
  rw [if_pos (inOk_strs x ws), any_str]
theorem inD_one (c : Nat) (z : Str) : inD (.str ⟨#[c]⟩) (.str z) = some (.d (.bl (decide (c ∈ tl z)))) := by
  show some (M.d (.bl (strIn _ _))) = _
  rw [strIn_one]
theorem str_beq (x y : Str) : (x == y) = decide (tl x = tl y) := by
  by_cases h : x = y
  · subst h; simp
  · have h2 : ¬ tl x = tl y := fun e => h (tl_ext e)
    rw [decide_eq_false h2]
    simpa using h
/-- what is_word finds -/
noncomputable def wS (x : Str) : List Nat := rdrop isFi (tl x)
noncomputable def wT (x : Str) : List Nat := (tl x).drop (wS x).length
noncomputable def wordB (x : Str) : Bool := !decide (x ∈ KP) && (decide (1 ≤ (wS x).length) && decide ((wS x).length ≤ 8) && (wS x).all isLe) && (decide (wT x = []) || (decide ((wT x).length ≤ 3) && !decide ((wT x).head? = some 48)))
theorem rdrop_spec (p : Nat → Bool) (l : List Nat) : ∃ b, l = rdrop p l ++ b ∧ (∀ c ∈ b, p c = true) ∧ (∀ c, (rdrop p l).getLast? = some c → p c = false) := by
  refine ⟨(l.reverse.takeWhile p).reverse, ?_, ?_, ?_⟩
  · unfold rdrop
    rw [← List.reverse_append, List.takeWhile_append_dropWhile, List.reverse_reverse]
  · intro c hc
    exact List.all_eq_true.mp List.all_takeWhile c (List.mem_reverse.mp hc)
  · intro c hc
    unfold rdrop at hc
    rw [List.getLast?_reverse] at hc
    cases h : l.reverse.dropWhile p with
    | nil => rw [h] at hc; cases hc
    | cons a r =>
      rw [h] at hc
      cases hc
      have := List.head?_dropWhile_not p l.reverse
      rw [h] at this
      simpa using this
theorem stem_eq (n : Nat) (w : Str) (h : w.length ≤ 1000) : den (n + 1) "stem_of" [.d (.str w)] = .ok (.d (.str (Txt.rstripChars w "0123456789"))) [some (.d (.str w))] := by
  rw [den_stem_of]
  unfold g_stem_of b_stem_of
  simp -dsimp [List.replicate, c_FIGURES, show w.length ≤ 16777216 by omega]
theorem stem_tl (x : Str) : tl (Txt.rstripChars x "0123456789") = wS x := by
  rw [rstrip_tl, tl_FG]
  unfold wS
  congr 1
  funext c
  unfold isFi
  rw [List.contains_eq_mem]
theorem cut_from (x : Str) (k : Nat) (h : k ≤ x.length) : tl (cutS x (some (k : Int)) none) = (tl x).drop k := by
  rw [cutS_tl, HT.sIx_nat, HT.sIx_none, ← tl_len, Nat.min_eq_left h, tl_len, ← List.length_drop]
  exact List.take_length ..
theorem word_eq (n : Nat) (x : Str) (h : x.length ≤ 1000) : den (n + 2) "is_word" [.d (.str x)] = .ok (.d (.bl (wordB x))) [some (.d (.str x))] := by
  have hs := stem_tl x
  have e1 := stem_eq n x h
  have sl : (Txt.rstripChars x "0123456789").length = (wS x).length := by rw [tl_len, hs]
  have sle : (wS x).length ≤ x.length := by
    obtain ⟨b, hb, _⟩ := rdrop_spec isFi (tl x)
    have : tl x = wS x ++ b := hb
    rw [tl_len, this, List.length_append]
    omega
  obtain ⟨s, hsv⟩ : ∃ s : Str, s = Txt.rstripChars x "0123456789" := ⟨_, rfl⟩
  rw [← hsv] at hs e1 sl
  rw [den_is_word]
  unfold g_is_word b_is_word
  have lc : mLc [3] (iSeq (eN 1)) (gN 3) tTrue (eM (mBin inD (eN 3) (eC c_LETTERS))) [some (.d (.str x)), some (.d (.str s)), none, none] = .ok (.lst (((wS x).map fun c => isLe c).map .bl)) [some (.d (.str x)), some (.d (.str s)), none, none] := by
    have e2 := mLc_mapP (own := [3]) (fi := iSeq (eN 1)) (g := gN 3) (fe := eM (mBin inD (eN 3) (eC c_LETTERS)))
      (S := [some (.d (.str x)), some (.d (.str s)), none, none]) (S1 := [some (.d (.str x)), some (.d (.str s)), none, none]) (ds := strSeq s) (fun d => match d with | .str y => .bl (strIn y "abcdefghijklmnopqrstuvwxyz") | d => d) (by simp -dsimp) (by
        intro d hd
        unfold strSeq at hd
        simp only [List.mem_map] at hd
        obtain ⟨c, hc, rfl⟩ := hd
        refine ⟨_, rfl, ?_⟩
        simp -dsimp [wipeS, c_LETTERS, inD_one, strIn_one]) (by unfold strSeq; rw [List.length_map, Array.length_toList]; show s.length ≤ _; rw [sl]; simp; omega)
    rw [e2]
    have : (strSeq s).map (fun d => match d with | .str y => D.bl (strIn y "abcdefghijklmnopqrstuvwxyz") | d => d) = ((wS x).map fun c => isLe c).map .bl := by
      rw [← hs]
      show ((tl s).map fun c => D.str ⟨#[c]⟩).map _ = _
      rw [List.map_map, List.map_map]
      apply List.map_congr_left
      intro c _
      show D.bl (strIn ⟨#[c]⟩ _) = D.bl (isLe c)
      rw [strIn_one, tl_LE]
      rfl
    rw [this]
    rfl
  obtain ⟨t, ht⟩ : ∃ t : Str, t = cutS x (some ((wS x).length : Int)) none := ⟨_, rfl⟩
  have tt : tl t = wT x := by rw [ht]; exact cut_from x _ sle
  have tlen : t.length = (wT x).length := by rw [tl_len, tt]
  have tle : t.length ≤ 1000 := by rw [ht]; exact Nat.le_trans (cutS_len ..) h
  have xl : x.length ≤ 16777216 := by omega
  have sl2 : s.length ≤ 16777216 := by omega
  have te : (t == "") = decide (wT x = []) := by rw [str_beq, tt, tl_e]
  have key : ((wS x).map fun c => isLe c).all id = (wS x).all isLe := by rw [List.all_map]; rfl
  have tl2 : t.length ≤ 16777216 := by omega
  unfold wordB
  by_cases hk : x ∈ KP
  · simp -dsimp [List.replicate, KEPT_eq, inD_strT, hk, isiK]
  have sl3 : (wS x).length ≤ 16777216 := by omega
  by_cases c1 : ¬ 1 ≤ (wS x).length
  · simp -dsimp [List.replicate, KEPT_eq, inD_strT, hk, isiK, e1, sl, sl3, c1, c_MOST_LETTERS, show ¬ (1 : Int) ≤ ((wS x).length : Int) by omega]
  have c1 : 1 ≤ (wS x).length := by omega
  by_cases c8 : ¬ (wS x).length ≤ 8
  · simp -dsimp [List.replicate, KEPT_eq, inD_strT, hk, isiK, e1, sl, sl3, c1, c8, c_MOST_LETTERS, show (1 : Int) ≤ ((wS x).length : Int) by omega, show ¬ ((wS x).length : Int) ≤ 8 by omega]
  have c8 : (wS x).length ≤ 8 := by omega
  have i1 : (1 : Int) ≤ ((wS x).length : Int) := by omega
  have i8 : ((wS x).length : Int) ≤ 8 := by omega
  cases ca : (wS x).all isLe
  · rw [ca] at key
    simp -dsimp [-List.map_map, -List.all_map, List.replicate, KEPT_eq, inD_strT, hk, isiK, e1, sl, sl3, c1, c8, c_MOST_LETTERS, i1, i8, lc, allD_bls, key]
  rw [ca] at key
  have base := key
  by_cases c0 : wT x = []
  · rw [c0] at te
    simp -dsimp [-List.map_map, -List.all_map, List.replicate, KEPT_eq, inD_strT, hk, isiK, e1, sl, sl3, xl, c1, c8, c_MOST_LETTERS, i1, i8, lc, allD_bls, key, ← ht, te, c0]
  rw [decide_eq_false c0] at te
  obtain ⟨c, r, er⟩ : ∃ c r, wT x = c :: r := by
    cases hh : wT x with
    | nil => exact absurd hh c0
    | cons c r => exact ⟨c, r, rfl⟩
  have at0 : atI t.cps.toList 0 = some c := by
    show atI (tl t) 0 = some c
    rw [tt, er]; exact atI_ok (by decide) rfl
  have c48 : ((⟨#[c]⟩ : Str) == "0") = decide (c = 48) := by
    rw [str_beq, tl_0]
    show decide ([c] = [48]) = _
    by_cases z : c = 48
    · subst z; rfl
    · rw [decide_eq_false z]; simpa using z
  rw [er] at tlen c0
  by_cases c3 : (c :: r).length ≤ 3
  · have i3 : ((c :: r).length : Int) ≤ 3 := by omega
    rw [← tlen] at i3
    by_cases z : c = 48
    · subst z
      simp -dsimp [-List.map_map, -List.all_map, -List.length_cons, List.replicate, KEPT_eq, inD_strT, hk, isiK, e1, sl, sl3, xl, c1, c8, c_MOST_LETTERS, c_MOST_FIGURES_words, i1, i8, lc, allD_bls, key, ← ht, te, er, tl2, i3, c3, at0, c48]
    · simp -dsimp [-List.map_map, -List.all_map, -List.length_cons, List.replicate, KEPT_eq, inD_strT, hk, isiK, e1, sl, sl3, xl, c1, c8, c_MOST_LETTERS, c_MOST_FIGURES_words, i1, i8, lc, allD_bls, key, ← ht, te, er, tl2, i3, c3, at0, c48, z]
  · have i3 : ¬ ((c :: r).length : Int) ≤ 3 := by omega
    rw [← tlen] at i3
    simp -dsimp [-List.map_map, -List.all_map, -List.length_cons, List.replicate, KEPT_eq, inD_strT, hk, isiK, e1, sl, sl3, xl, c1, c8, c_MOST_LETTERS, c_MOST_FIGURES_words, i1, i8, lc, allD_bls, key, ← ht, te, er, tl2, i3, c3]
noncomputable def SG : List Str := ["+", "-", "*", "/", "<", "="]
/-- what is_node asks of a node, beyond its form -/
noncomputable def Kd.tk : Kd → Nat → Prop
  | .num _, _ | .tru _, _ | .mark _, _ | .many, _ | .iff, _ => True
  | .pick i, _ => 1 ≤ i ∧ i ≤ 4
  | .nam w, _ | .rai w, _ | .let_ w, _ | .try_ w, _ => wordB w = true
  | .do_ w, _ => w ∈ SG
  | .parts, n => n ≤ 4
  | .loop w w2, _ => wordB w = true ∧ wordB w2 = true ∧ w ≠ w2
  | .call w, n => wordB w = true ∧ n ≤ 4
  | .melt w ws, _ => wordB w = true ∧ (∀ v ∈ ws, wordB v = true) ∧ ws.Nodup ∧ ws.length ≤ 4
mutual
noncomputable def Tr.tk : Tr → Prop
  | .nd k xs => k.tk xs.length ∧ Tr.tks xs
noncomputable def Tr.tks : List Tr → Prop
  | [] => True
  | x :: xs => x.tk ∧ Tr.tks xs
end
theorem tks_mem : ∀ {xs : List Tr}, Tr.tks xs → ∀ x ∈ xs, x.tk
  | [], _, x, h => by simp at h
  | y :: ys, ⟨h1, h2⟩, x, h => by
    rcases List.mem_cons.mp h with e | e
    · rw [e]; exact h1
    · exact tks_mem h2 x e
theorem tks_of : ∀ {xs : List Tr}, (∀ x ∈ xs, x.tk) → Tr.tks xs
  | [], _ => trivial
  | y :: ys, h => ⟨h y (List.mem_cons_self ..), tks_of fun x hx => h x (List.mem_cons_of_mem _ hx)⟩
/-- what a drawn body is: names bound, calls of the heads, no melts -/
noncomputable def Kd.bwi : Kd → List Str
  | .let_ w => [w]
  | .loop w v => [w, v]
  | _ => []
noncomputable def Kd.sk (hs : List (Str × Nat)) (b : List Str) (n : Nat) : Kd → Prop
  | .nam w => w ∈ b
  | .call f => (f, n) ∈ hs
  | .melt _ _ => False
  | _ => True
mutual
noncomputable def Tr.sc (hs : List (Str × Nat)) (b : List Str) : Tr → Prop
  | .nd k xs => k.sk hs b xs.length ∧ Tr.scs hs b (b ++ k.bwi) xs
noncomputable def Tr.scs (hs : List (Str × Nat)) (b bl : List Str) : List Tr → Prop
  | [] => True
  | x :: xs => (xs = [] → x.sc hs bl) ∧ (xs ≠ [] → x.sc hs b) ∧ Tr.scs hs b bl xs
end
theorem op1_at {v : Int} (v0 : 0 ≤ v) (v1 : v < 6) : ∃ c : Nat, atI (Str.cps "+-*/<=").toList v = some c ∧ Wd ⟨#[c]⟩ ∧ (⟨#[c]⟩ : Str) ∈ SG := by
  have e : (Str.cps "+-*/<=").toList = [43, 45, 42, 47, 60, 61] := by decide +kernel
  rw [e]
  have : v = 0 ∨ v = 1 ∨ v = 2 ∨ v = 3 ∨ v = 4 ∨ v = 5 := by omega
  rcases this with e | e | e | e | e | e <;> subst e
  · exact ⟨43, by simp, ⟨by decide +kernel, by decide +kernel⟩, by decide +kernel⟩
  · exact ⟨45, by simp, ⟨by decide +kernel, by decide +kernel⟩, by decide +kernel⟩
  · exact ⟨42, by simp, ⟨by decide +kernel, by decide +kernel⟩, by decide +kernel⟩
  · exact ⟨47, by simp, ⟨by decide +kernel, by decide +kernel⟩, by decide +kernel⟩
  · exact ⟨60, by simp, ⟨by decide +kernel, by decide +kernel⟩, by decide +kernel⟩
  · exact ⟨61, by simp, ⟨by decide +kernel, by decide +kernel⟩, by decide +kernel⟩
theorem op_lens : (Str.length "+-*/<=") ≤ 16777216 ∧ (Str.length "+-*/+-") ≤ 16777216 := by decide +kernel
theorem wd3 : Wd "kind" ∧ Wd "far" ∧ Wd "nought" := by
  refine ⟨⟨?_, ?_⟩, ⟨?_, ?_⟩, ⟨?_, ?_⟩⟩ <;> decide +kernel
theorem wb3 : wordB "kind" = true ∧ wordB "far" = true ∧ wordB "nought" = true := by decide +kernel
theorem sd_pos (t : Tr) : 1 ≤ t.sz ∧ 1 ≤ t.dep := by
  cases t with
  | nd k xs =>
    show 1 ≤ Tr.szs xs + 1 ∧ 1 ≤ Tr.deps xs + 1
    omega
theorem nm_num {k : Kd} (h : ∀ i, k ≠ .num i) : (k.nm == ("number" : Str)) = false := by
  cases k with
  | num i => exact absurd rfl (h i)
  | _ => simp [Kd.nm]
theorem nodup_mapO {α β : Type} {f : α → β} {l : List α} (h : ∀ x ∈ l, ∀ y ∈ l, f x = f y → x = y) (hn : l.Nodup) : (l.map f).Nodup := by
  induction l with
  | nil => exact List.nodup_nil
  | cons x l ih =>
    rw [List.nodup_cons] at hn
    rw [List.map_cons, List.nodup_cons]
    refine ⟨fun hx => ?_, ih (fun a ha b hb => h a (List.mem_cons_of_mem _ ha) b (List.mem_cons_of_mem _ hb)) hn.2⟩
    obtain ⟨y, hy, e⟩ := List.mem_map.mp hx
    have := h y (List.mem_cons_of_mem _ hy) x (List.mem_cons_self ..) e
    exact hn.1 (this ▸ hy)
theorem rep_one (k c : Nat) : (List.replicate k [c]).flatten = List.replicate k c := by
  induction k with
  | zero => rfl
  | succ k ih => rw [List.replicate_succ, List.flatten_cons, ih]; rfl
theorem rep_two (m c : Nat) : List.replicate m c ++ (List.replicate (1 : Int).toNat (List.replicate m c)).flatten = List.replicate (List.replicate m c ++ (List.replicate (1 : Int).toNat (List.replicate m c)).flatten).length c := by
  have e : (List.replicate (1 : Int).toNat (List.replicate m c)).flatten = List.replicate m c := by show ([List.replicate m c]).flatten = _; simp
  rw [e, List.replicate_append_replicate, List.length_replicate]
theorem rep_nil (m c : Nat) : List.replicate m c ++ (List.replicate (0 : Int).toNat (List.replicate m c)).flatten = List.replicate (List.replicate m c ++ (List.replicate (0 : Int).toNat (List.replicate m c)).flatten).length c := by
  have e : (List.replicate (0 : Int).toNat (List.replicate m c)).flatten = [] := rfl
  rw [e, List.append_nil, List.length_replicate]
theorem TLS_nd : TLS.Nodup := by decide +kernel
theorem KPS_nd : KPS.Nodup := by decide +kernel
theorem KPS_word : ∀ w ∈ KPS, wordB w = true := by decide +kernel
theorem TLS_fig : ∀ v ∈ TLS, (∀ x ∈ tl v, 48 ≤ x ∧ x ≤ 57) ∧ (tl v).length ≤ 3 ∧ (tl v).head? ≠ some 48 := by decide +kernel
theorem turned_nodup {xs : List Str} (hn : xs.Nodup) {t : Int} (h0 : 0 ≤ t) : (cutL (cutL xs (some t) none ++ cutL xs none (some t)) none (some 5)).Nodup := by
  obtain ⟨n, rfl⟩ : ∃ n : Nat, t = (n : Int) := ⟨t.toNat, by omega⟩
  have e1 : cutL xs (some (n : Int)) none = xs.drop n := by
    unfold cutL
    rw [HT.sIx_nat, HT.sIx_none]
    by_cases h : n ≤ xs.length
    · rw [Nat.min_eq_left h]
      exact List.take_of_length_le (by rw [List.length_drop]; exact Nat.le_refl _)
    · rw [Nat.min_eq_right (by omega), Nat.sub_self, List.take_zero, List.drop_of_length_le (by omega)]
  have e2 : cutL xs none (some (n : Int)) = xs.take n := by
    unfold cutL
    rw [HT.sIx_nat, HT.sIx_none]
    show List.take (min n xs.length - 0) (List.drop 0 xs) = _
    rw [List.drop_zero, Nat.sub_zero]
    by_cases h : n ≤ xs.length
    · rw [Nat.min_eq_left h]
    · rw [Nat.min_eq_right (by omega), List.take_length, List.take_of_length_le (by omega)]
  have e3 : (xs.drop n ++ xs.take n).Nodup := (List.perm_append_comm.nodup_iff).mpr (by rw [List.take_append_drop]; exact hn)
  rw [e1, e2]
  unfold cutL
  exact (e3.sublist (List.drop_sublist _ _)).sublist (List.take_sublist _ _)
theorem word_of {x : Str} {L N : List Nat} (e : tl x = L ++ N) (hL : ∀ c ∈ L, 97 ≤ c ∧ c ≤ 122) (hN : ∀ c ∈ N, 48 ≤ c ∧ c ≤ 57) (l1 : 1 ≤ L.length) (l8 : L.length ≤ 8) (n3 : N.length ≤ 3) (nh : N.head? ≠ some 48) (hk : x ∉ KP) : wordB x = true := by
  have e1 : wS x = L := by
    unfold wS
    rw [e]
    exact rdrop_app (fun c hc => by rw [isFi_iff]; exact decide_eq_true (hN c hc)) (fun c hc => by rw [isFi_iff]; exact decide_eq_false (by have := hL c hc; omega))
  have e2 : wT x = N := by
    unfold wT
    rw [e1, e, List.drop_left]
  have e3 : L.all isLe = true := List.all_eq_true.mpr fun c hc => by rw [isLe_iff]; exact decide_eq_true (hL c hc)
  unfold wordB
  rw [e1, e2, e3, decide_eq_false hk, decide_eq_true l1, decide_eq_true l8, decide_eq_true n3, decide_eq_false nh]
  simp
theorem KP_two : ∀ s ∈ KP, (match tl s with | a :: b :: r => decide (a ≠ b) && decide (97 ≤ b) && (decide (r = []) || r.any fun d => decide (d ≠ a) && decide (d ≠ b)) | _ => false) = true := by decide +kernel
theorem not_KP1 {x : Str} {k c : Nat} {N : List Nat} (hk : 1 ≤ k) (e : tl x = List.replicate k c ++ N) (hN : ∀ c ∈ N, 48 ≤ c ∧ c ≤ 57) : x ∉ KP := by
  intro hx
  have h := KP_two x hx
  rw [e] at h
  match k, hk with
  | 1, _ =>
    cases N with
    | nil => cases h
    | cons a N =>
      have := hN a (List.mem_cons_self ..)
      have h : (decide (c ≠ a) && decide (97 ≤ a) && _) = true := h
      rw [decide_eq_false (show ¬ 97 ≤ a by omega)] at h
      simp at h
  | k + 2, _ =>
    have h : (decide (c ≠ c) && decide (97 ≤ c) && _) = true := h
    rw [decide_eq_false (show ¬ c ≠ c by simp)] at h
    simp at h
theorem not_KP2 {x : Str} {L : List Nat} {c d : Nat} (_ : tl x = L) (h2 : ∀ y ∈ tl x, y = c ∨ y = d) (hl : (tl x).length ≠ 2) : x ∉ KP := by
  intro hx
  have h := KP_two x hx
  cases e : tl x with
  | nil => rw [e] at h; cases h
  | cons a r =>
    cases r with
    | nil => rw [e] at h; cases h
    | cons b r =>
      rw [e] at h h2 hl
      have h : (decide (a ≠ b) && decide (97 ≤ b) && (decide (r = []) || r.any fun d => decide (d ≠ a) && decide (d ≠ b))) = true := h
      rw [Bool.and_eq_true, Bool.and_eq_true, Bool.or_eq_true] at h
      obtain ⟨⟨h3, _⟩, h4⟩ := h
      have h3 := of_decide_eq_true h3
      rcases h4 with h4 | h4
      · have := of_decide_eq_true h4
        subst this
        exact hl rfl
      · obtain ⟨y, hy, h5⟩ := List.any_eq_true.mp h4
        rw [Bool.and_eq_true] at h5
        have h6 := of_decide_eq_true h5.1
        have h7 := of_decide_eq_true h5.2
        have ka := h2 a (List.mem_cons_self ..)
        have kb := h2 b (List.mem_cons_of_mem _ (List.mem_cons_self ..))
        have ky := h2 y (List.mem_cons_of_mem _ (List.mem_cons_of_mem _ hy))
        omega
theorem KPS_zz : ∀ w ∈ KPS, w ≠ "zz9" := by decide +kernel
theorem TLS_five : ∀ v ∈ TLS.take 5, (tl v).getLast? ≠ some 57 := by decide +kernel
theorem turned_head {t : Int} {v : Str} (h0 : 0 ≤ t) (h5 : t < 5) (h : (cutL (cutL TLS (some t) none ++ cutL TLS none (some t)) none (some 5)).head? = some v) : v ∈ TLS.take 5 := by
  have : t = 0 ∨ t = 1 ∨ t = 2 ∨ t = 3 ∨ t = 4 := by omega
  rcases this with e | e | e | e | e <;> subst e <;> (have hh : _ = some v := h; revert hh; unfold cutL HT.sIx; intro hh; cases hh; decide +kernel)
theorem zz9_not {k c : Nat} {x v : Str} (hk : 1 ≤ k) (c1 : 97 ≤ c ∧ c ≤ 122) (e : tl x = List.replicate k c ++ tl v) (hv : v ∈ TLS.take 5) : x ≠ "zz9" := by
  intro hx
  have h1 : (tl x).getLast? = some 57 := by rw [hx]; decide +kernel
  rw [e] at h1
  cases hl : tl v with
  | nil =>
    rw [hl, List.append_nil] at h1
    have := List.mem_of_getLast? h1
    have := List.eq_of_mem_replicate this
    omega
  | cons a r =>
    rw [List.getLast?_append, hl] at h1
    have h2 := TLS_five v hv
    rw [hl] at h2
    cases h3 : (a :: r).getLast? with
    | none => simp at h3
    | some z =>
      rw [h3] at h1 h2
      exact h2 h1
theorem words_wp (n : Nat) (g : Bag) (hg : g.Ok) {Q : M → List (Option M) → Prop}
    (h : ∀ (ws : List Str) (g' : Bag), ws.length = 5 → (∀ w ∈ ws, Wd w) → (∀ w ∈ ws, wordB w = true) → ws.Nodup → (∀ w, ws.head? = some w → w ≠ "zz9") → g'.Ok → Q (.lst (ws.map .str)) [some g'.enc, some (.d (.int 5))]) : (den (n + 2) "_law_words" [g.enc, .d (.int 5)]).wp Q := by
  rw [den__law_words]
  refine run_wp rfl ?_
  unfold b__law_words
  simp -dsimp [List.replicate, den__law_take]
  refine take_wp _ g _ hg (by decide) (by decide) fun way g w0 w1 hg => ?_
  simp -dsimp
  refine take_wp _ g _ hg (by decide) (by decide) fun turn g t0 t1 hg => ?_
  simp -dsimp
  refine take_wp _ g _ hg (by decide) (by decide) fun i g i0 i1 hg => ?_
  obtain ⟨c, hc, c1⟩ := abc_at i i0 i1
  simp -dsimp [abc_len, hc]
  refine take_wp _ g _ hg (by decide) (by decide) fun sz g z0 z1 hg => ?_
  have hl1 : Str.length ⟨#[c]⟩ ≤ 1000 := by show 1 ≤ 1000; decide
  obtain ⟨k, hk⟩ : ∃ k : Int, k = 1 + sz := ⟨_, rfl⟩
  obtain ⟨base, hb⟩ : ∃ b : Str, b = repS ⟨#[c]⟩ k.toNat := ⟨_, rfl⟩
  have bp : pcs base = true := by rw [hb]; exact pcs_rep c1 _
  have bl : base.length = k.toNat := by rw [hb, repS_len]; show k.toNat * 1 = _; omega
  have b8 : 1 ≤ base.length ∧ base.length ≤ 8 := by omega
  have btl : tl base = List.replicate k.toNat c := by rw [hb, tl_rep]; exact rep_one _ _
  by_cases ca : way = 0
  · subst ca
    obtain ⟨t5, ht5⟩ : ∃ t : Int, t = turn.fmod 5 := ⟨_, rfl⟩
    have t5r : 0 ≤ t5 ∧ t5 < 5 := by rw [ht5, fmod_pos (by decide)]; omega
    have f1 : cutD [.str "", .str "1", .str "2", .str "12", .str "10", .str "3", .str "20", .str "100", .str "11", .str "9", .str "999", .str "21"] (some t5) none = (cutL TLS (some t5) none).map D.str := cutD_map D.str TLS _ _
    have f2 : cutD [.str "", .str "1", .str "2", .str "12", .str "10", .str "3", .str "20", .str "100", .str "11", .str "9", .str "999", .str "21"] none (some t5) = (cutL TLS none (some t5)).map D.str := cutD_map D.str TLS _ _
    obtain ⟨a1, a2, a3⟩ := turned (xs := TLS) t5r.1 (by show t5 ≤ 12; omega) (by decide)
    obtain ⟨U, hU⟩ : ∃ U, U = cutL TLS (some t5) none := ⟨_, rfl⟩
    obtain ⟨V, hV⟩ : ∃ U, U = cutL TLS none (some t5) := ⟨_, rfl⟩
    rw [← hU, ← hV] at a1 a2 a3
    rw [← hU] at f1
    rw [← hV] at f2
    have f3 : cutD (U.map D.str ++ V.map D.str) none (some 5) = (cutL (U ++ V) none (some 5)).map D.str := by rw [← List.map_append]; exact cutD_map D.str _ _ _
    obtain ⟨X, hX⟩ : ∃ X, X = cutL (U ++ V) none (some 5) := ⟨_, rfl⟩
    rw [← hX] at a2 a3 f3
    have xnd : X.Nodup := by rw [hX, hU, hV]; exact turned_nodup TLS_nd t5r.1
    have a1 : U.length + V.length ≤ 16777216 := by rw [a1]; decide
    have lc : ∀ s2 s3 s4 s5, mLc [10] (iSeq (eM (mSl (eN 7) pNo (pIx (eN 1))))) (gN 10) tTrue (eM (mBin addD (eN 6) (eN 10))) [some g.enc, some (.d (.int 5)), s2, s3, s4, s5, some (.d (.str base)), some (.lst (U.map .str ++ V.map .str)), none, none, none] = .ok (.lst (X.map fun w => .str (base ++ w))) [some g.enc, some (.d (.int 5)), s2, s3, s4, s5, some (.d (.str base)), some (.lst (U.map .str ++ V.map .str)), none, none, none] := by
      intro s2 s3 s4 s5
      have e2 := mLc_ts (own := [10]) (fi := iSeq (eM (mSl (eN 7) pNo (pIx (eN 1))))) (g := gN 10) (fe := eM (mBin addD (eN 6) (eN 10))) (S := [some g.enc, some (.d (.int 5)), s2, s3, s4, s5, some (.d (.str base)), some (.lst (U.map .str ++ V.map .str)), none, none, none]) (S1 := [some g.enc, some (.d (.int 5)), s2, s3, s4, s5, some (.d (.str base)), some (.lst (U.map .str ++ V.map .str)), none, none, none]) (ts := X) D.str (fun w => .str (base ++ w)) (by simp -dsimp [f3]) (by
        intro w hw
        have wl := (TLS_ok w (a3 w hw)).2
        refine ⟨[some g.enc, some (.d (.int 5)), s2, s3, s4, s5, some (.d (.str base)), some (.lst (U.map .str ++ V.map .str)), none, none, some (.d (.str w))], rfl, ?_⟩
        simp -dsimp [wipeS, show base.length + w.length ≤ 16777216 by omega]) (by rw [a2]; decide)
      rw [e2]
      rfl
    simp -dsimp [← hk, hl1, show 0 ≤ k by omega, show k ≤ 1000 by omega, ← hb, ← ht5, f1, f2, a1, lc]
    have e : (X.map fun w => D.str (base ++ w)) = (X.map (base ++ ·)).map D.str := by rw [List.map_map]; rfl
    rw [e]
    refine h _ _ (by rw [List.length_map]; exact a2) (fun w hw => ?_) (fun w hw => ?_) (nodup_mapO (fun x _ y _ e => app_inj e) xnd) (fun w hw e => ?_) hg
    rotate_left
    rotate_left
    · rw [List.head?_map] at hw
      cases hx : X.head? with
      | none => rw [hx] at hw; cases hw
      | some v =>
        rw [hx] at hw
        have hw : base ++ v = w := Option.some.inj hw
        rw [hX, hU, hV] at hx
        have hv := turned_head t5r.1 (show t5 < 5 by omega) hx
        exact zz9_not (by omega) (c := c) (k := k.toNat) c1 (x := w) (v := v) (by rw [← hw, tl_app, btl]) hv e
    rotate_left
    · obtain ⟨v, hv, rfl⟩ := List.mem_map.mp hw
      obtain ⟨v1, v2, v3⟩ := TLS_fig v (a3 v hv)
      have e : tl (base ++ v) = List.replicate k.toNat c ++ tl v := by rw [tl_app, btl]
      exact word_of e (fun x hx => by rw [List.eq_of_mem_replicate hx]; exact c1) v1 (by rw [List.length_replicate]; omega) (by rw [List.length_replicate]; omega) v2 v3 (not_KP1 (by omega) e v1)
    obtain ⟨v, hv, rfl⟩ := List.mem_map.mp hw
    obtain ⟨v1, v2⟩ := TLS_ok v (a3 v hv)
    exact ⟨by rw [pcs_app, bp, v1]; rfl, by rw [tl_len, tl_app, List.length_append, ← tl_len, ← tl_len]; omega⟩
  by_cases cb : way = 1
  · subst cb
    obtain ⟨t5, ht5⟩ : ∃ t : Int, t = turn.fmod 13 := ⟨_, rfl⟩
    have t5r : 0 ≤ t5 ∧ t5 < 13 := by rw [ht5, fmod_pos (by decide)]; omega
    have f1 : cutD [.str "kind", .str "far", .str "nought", .str "lack", .str "told", .str "dry", .str "refused", .str "name", .str "call", .str "number", .str "do", .str "truth", .str "root"] (some t5) none = (cutL KPS (some t5) none).map D.str := cutD_map D.str KPS _ _
    have f2 : cutD [.str "kind", .str "far", .str "nought", .str "lack", .str "told", .str "dry", .str "refused", .str "name", .str "call", .str "number", .str "do", .str "truth", .str "root"] none (some t5) = (cutL KPS none (some t5)).map D.str := cutD_map D.str KPS _ _
    obtain ⟨a1, a2, a3⟩ := turned (xs := KPS) t5r.1 (by show t5 ≤ 13; omega) (by decide)
    obtain ⟨U, hU⟩ : ∃ U, U = cutL KPS (some t5) none := ⟨_, rfl⟩
    obtain ⟨V, hV⟩ : ∃ U, U = cutL KPS none (some t5) := ⟨_, rfl⟩
    rw [← hU, ← hV] at a1 a2 a3
    rw [← hU] at f1
    rw [← hV] at f2
    have f3 : cutD (U.map D.str ++ V.map D.str) none (some 5) = (cutL (U ++ V) none (some 5)).map D.str := by rw [← List.map_append]; exact cutD_map D.str _ _ _
    obtain ⟨X, hX⟩ : ∃ X, X = cutL (U ++ V) none (some 5) := ⟨_, rfl⟩
    rw [← hX] at a2 a3 f3
    have xnd : X.Nodup := by rw [hX, hU, hV]; exact turned_nodup KPS_nd t5r.1
    have a1 : U.length + V.length ≤ 16777216 := by rw [a1]; decide
    simp -dsimp [← hk, hl1, show 0 ≤ k by omega, show k ≤ 1000 by omega, ← hb, ← ht5, f1, f2, a1, f3]
    refine h _ _ a2 (fun w hw => ?_) (fun w hw => KPS_word w (a3 w hw)) xnd (fun w hw => KPS_zz w (a3 w (List.mem_of_mem_head? (by rw [hw]; rfl)))) hg
    obtain ⟨v1, v2⟩ := KPS_ok w (a3 w hw)
    exact ⟨v1, by omega⟩
  by_cases cc : way = 2
  · subst cc
    have way2 : ∀ (base2 : Str) (at_ : Int) (s3 s4 : Option M), tl base2 = List.replicate base2.length c → base2.length ≠ 2 → pcs base2 = true → base2.length ≤ 8 → 0 ≤ at_ → at_ < (base2.length : Int) → ∃ X : List Str, X.length = 5 ∧ (∀ w ∈ X, Wd w) ∧ (∀ w ∈ X, wordB w = true) ∧ X.Nodup ∧ (∀ w ∈ X, w ≠ "zz9") ∧
        mLc [9] (iRng1 (eN 1)) (gN 9) tTrue (eM (mBin addD (eM (mBin addD (eM (mSl (eN 6) pNo (pIx (eN 8)))) (eM (mBin ixD (eN 2) (eM (mBin modD (eM (mBin addD (eN 5) (eN 9))) (eC (.int 26)))))))) (eM (mSl (eN 6) (pIx (eM (mBin addD (eN 8) (eC (.int 1))))) pNo)))) [some g.enc, some (.d (.int 5)), some (.d (.str "abcdefghijklmnopqrstuvwxyz")), s3, s4, some (.d (.int turn)), some (.d (.str base2)), none, some (.d (.int at_)), none, none] = .ok (.lst (X.map .str)) [some g.enc, some (.d (.int 5)), some (.d (.str "abcdefghijklmnopqrstuvwxyz")), s3, s4, some (.d (.int turn)), some (.d (.str base2)), none, some (.d (.int at_)), none, none] := by
      intro base2 at_ s3 s4 tb2 n2 p2 l2 h0 h1
      obtain ⟨m, rfl⟩ : ∃ m : Nat, at_ = (m : Int) := ⟨at_.toNat, by omega⟩
      obtain ⟨A, hA⟩ : ∃ A : Str, A = cutS base2 none (some (m : Int)) := ⟨_, rfl⟩
      obtain ⟨B, hB⟩ : ∃ A : Str, A = cutS base2 (some ((m : Int) + 1)) none := ⟨_, rfl⟩
      have al : A.length = m := by rw [hA]; exact cutS_ahead _ _ (by omega)
      have bl2 : B.length = base2.length - (m + 1) := by rw [hB, show ((m : Int) + 1) = ((m + 1 : Nat) : Int) by omega]; exact cutS_behind _ _ (by omega)
      have ap : pcs A = true := by rw [hA]; exact pcs_cut p2 _ _
      have bp2 : pcs B = true := by rw [hB]; exact pcs_cut p2 _ _
      have lr : ∀ j : Nat, 0 ≤ (turn + (j : Int)).fmod 26 ∧ (turn + (j : Int)).fmod 26 < 26 := fun j => by rw [fmod_pos (by decide)]; omega
      have at1 : ∀ x ∈ tl A, x = c := fun x hx => by
        rw [hA] at hx
        have := cutS_mem hx
        rw [tb2] at this
        exact List.eq_of_mem_replicate this
      have bt1 : ∀ x ∈ tl B, x = c := fun x hx => by
        rw [hB] at hx
        have := cutS_mem hx
        rw [tb2] at this
        exact List.eq_of_mem_replicate this
      have tw : ∀ q : Nat, tl (A ++ (⟨#[q]⟩ : Str) ++ B) = (tl A ++ [q] ++ tl B) ++ [] := fun q => by rw [tl_app, tl_app, tl_one, List.append_nil]
      refine ⟨(List.range 5).map fun j : Nat => A ++ (⟨#[97 + ((turn + (j : Int)).fmod 26).toNat]⟩ : Str) ++ B, by rw [List.length_map, List.length_range], fun w hw => ?_, fun w hw => ?_, nodup_mapO (fun i hi j hj e => ?_) List.nodup_range, fun w hw e => ?_, ?_⟩
      rotate_left
      · obtain ⟨j, _, rfl⟩ := List.mem_map.mp hw
        have := lr j
        have ll : (tl A ++ [97 + ((turn + (j : Int)).fmod 26).toNat] ++ tl B).length = base2.length := by
          rw [List.length_append, List.length_append, ← tl_len, ← tl_len, al, bl2, List.length_singleton]
          omega
        have lel : ∀ x ∈ tl A ++ [97 + ((turn + (j : Int)).fmod 26).toNat] ++ tl B, x = c ∨ x = 97 + ((turn + (j : Int)).fmod 26).toNat := by
          intro x hx
          rcases List.mem_append.mp hx with hx | hx
          · rcases List.mem_append.mp hx with hx | hx
            · exact .inl (at1 x hx)
            · exact .inr (List.mem_singleton.mp hx)
          · exact .inl (bt1 x hx)
        refine word_of (tw _) (fun x hx => ?_) (by simp) (by omega) (by omega) (by simp) (by simp) (not_KP2 (c := c) (d := 97 + ((turn + (j : Int)).fmod 26).toNat) (tw _) ?_ (by rw [tw, List.append_nil, ll]; exact n2))
        · rcases lel x hx with e | e
          · rw [e]; exact c1
          · omega
        · intro x hx
          rw [tw, List.append_nil] at hx
          exact lel x hx
      · have hi := List.mem_range.mp hi
        have hj := List.mem_range.mp hj
        have e2 := congrArg tl e
        rw [tw, tw, List.append_nil, List.append_nil] at e2
        have e3 := List.append_cancel_left (List.append_cancel_right e2)
        have e4 := (List.cons.inj e3).1
        have a := lr i
        have b := lr j
        have m1 := fmod_pos (a := turn + (i : Int)) (b := 26) (by decide)
        have m2 := fmod_pos (a := turn + (j : Int)) (b := 26) (by decide)
        omega
      · obtain ⟨j, _, e2⟩ := List.mem_map.mp hw
        have := lr j
        have h57 : (57 : Nat) ∈ tl w := by rw [e]; decide +kernel
        rw [← e2, tw, List.append_nil] at h57
        rcases List.mem_append.mp h57 with hx | hx
        · rcases List.mem_append.mp hx with hx | hx
          · have := at1 _ hx; omega
          · have := List.mem_singleton.mp hx; omega
        · have := bt1 _ hx; omega
      rotate_left
      · obtain ⟨j, _, rfl⟩ := List.mem_map.mp hw
        have := lr j
        refine ⟨by rw [pcs_app, pcs_app, ap, bp2, pcs_one (by omega)]; rfl, ?_⟩
        rw [len_app, len_app, al, bl2]
        show m + 1 + _ ≤ 12
        omega
      · have e2 := mLc_ts (own := [9]) (fi := iRng1 (eN 1)) (g := gN 9) (fe := eM (mBin addD (eM (mBin addD (eM (mSl (eN 6) pNo (pIx (eN 8)))) (eM (mBin ixD (eN 2) (eM (mBin modD (eM (mBin addD (eN 5) (eN 9))) (eC (.int 26)))))))) (eM (mSl (eN 6) (pIx (eM (mBin addD (eN 8) (eC (.int 1))))) pNo)))) (S := [some g.enc, some (.d (.int 5)), some (.d (.str "abcdefghijklmnopqrstuvwxyz")), s3, s4, some (.d (.int turn)), some (.d (.str base2)), none, some (.d (.int (m : Int))), none, none]) (S1 := [some g.enc, some (.d (.int 5)), some (.d (.str "abcdefghijklmnopqrstuvwxyz")), s3, s4, some (.d (.int turn)), some (.d (.str base2)), none, some (.d (.int (m : Int))), none, none]) (ts := List.range 5) (fun j : Nat => D.int (j : Int)) (fun j : Nat => .str (A ++ (⟨#[97 + ((turn + (j : Int)).fmod 26).toNat]⟩ : Str) ++ B)) (by rw [← rng5]; simp -dsimp) (by
          intro j hj
          obtain ⟨q, hq⟩ : ∃ q : Int, q = (turn + (j : Int)).fmod 26 := ⟨_, rfl⟩
          have hr := lr j
          rw [← hq] at hr ⊢
          have ai := abc_is q hr.1 hr.2
          refine ⟨[some g.enc, some (.d (.int 5)), some (.d (.str "abcdefghijklmnopqrstuvwxyz")), s3, s4, some (.d (.int turn)), some (.d (.str base2)), none, some (.d (.int (m : Int))), some (.d (.int (j : Int))), none], rfl, ?_⟩
          have b16 : base2.length ≤ 16777216 := by omega
          have ab : A.length + Str.length ⟨#[97 + q.toNat]⟩ ≤ 16777216 := by rw [al]; show m + 1 ≤ _; omega
          have abb : A.length + Str.length ⟨#[97 + q.toNat]⟩ + B.length ≤ 16777216 := by rw [al, bl2]; show m + 1 + _ ≤ _; omega
          simp -dsimp [wipeS, ← hq, ai, abc_len, b16, ← hA, ← hB, ab, abb]) (by rw [List.length_range]; decide)
        rw [e2, List.map_map]
        rfl
    have b16 : base.length ≤ 16777216 := by omega
    have b10 : base.length ≤ 1000 := by omega
    obtain ⟨L, hL⟩ : ∃ L : Int, L = (base.length : Int) := ⟨_, rfl⟩
    have ln : lenD (.str base) = some (.d (.int L)) := by
      show (if base.length ≤ line then some (M.d (.int base.length)) else none) = _
      rw [if_pos (show base.length ≤ line from b16), hL]
    by_cases c2 : base.length = 2
    · have cL : L = 2 := by omega
      obtain ⟨R, hR⟩ : ∃ R : Str, R = repS base 1 := ⟨_, rfl⟩
      have rl : R.length = 2 := by rw [hR, repS_len]; omega
      have rp : pcs R = true := by
        rw [hR]
        unfold pcs
        rw [tl_rep, List.all_eq_true]
        intro x hx
        obtain ⟨l, hl, hx⟩ := List.mem_flatten.mp hx
        obtain ⟨_, rfl⟩ := List.mem_replicate.mp hl
        exact List.all_eq_true.mp bp x hx
      obtain ⟨a, ha⟩ : ∃ a : Int, a = turn.fmod 4 := ⟨_, rfl⟩
      have ar : 0 ≤ a ∧ a < 4 := by rw [ha, fmod_pos (by decide)]; omega
      have l4 : (base ++ R).length = 4 := by rw [len_app, rl, c2]
      have ln2 : lenD (.str (base ++ R)) = some (.d (.int 4)) := by
        show (if (base ++ R).length ≤ line then some (M.d (.int (base ++ R).length)) else none) = _
        rw [l4]
        rfl
      obtain ⟨X, x1, x2, x3, x4, x5, lc⟩ := way2 (base ++ R) a (some (.lst [.str "kind", .str "far", .str "nought", .str "lack", .str "told", .str "dry", .str "refused", .str "name", .str "call", .str "number", .str "do", .str "truth", .str "root"])) (some (.d (.int 2))) (by rw [tl_app, hR, tl_rep, tl_len (base ++ repS base _), tl_app, tl_rep, btl]; first | exact rep_two _ _ | exact rep_nil _ _) (by omega) (by rw [pcs_app, bp, rp]; rfl) (by omega) ar.1 (by rw [l4]; omega)
      simp -dsimp [← hk, hl1, show 0 ≤ k by omega, show k ≤ 1000 by omega, ← hb, b16, b10, ln, ln2, cL, c2, rl, ← hR, ← ha, lc]
      exact h X g x1 x2 x3 x4 (fun w hw => x5 w (List.mem_of_mem_head? (by rw [hw]; rfl))) hg
    · have cL : ¬ L = 2 := by omega
      obtain ⟨R, hR⟩ : ∃ R : Str, R = repS base 0 := ⟨_, rfl⟩
      have rl : R.length = 0 := by rw [hR, repS_len]; omega
      have rp : pcs R = true := by
        rw [hR]
        unfold pcs
        rw [tl_rep, List.all_eq_true]
        intro x hx
        obtain ⟨l, hl, hx⟩ := List.mem_flatten.mp hx
        obtain ⟨_, rfl⟩ := List.mem_replicate.mp hl
        exact List.all_eq_true.mp bp x hx
      obtain ⟨a, ha⟩ : ∃ a : Int, a = turn.fmod L := ⟨_, rfl⟩
      have ar : 0 ≤ a ∧ a < L := by
        rw [ha, fmod_pos (by omega)]
        exact ⟨Int.emod_nonneg _ (by omega), Int.emod_lt_of_pos _ (by omega)⟩
      have l4 : (base ++ R).length = base.length := by rw [len_app, rl]; rfl
      have ln2 : lenD (.str (base ++ R)) = some (.d (.int L)) := by
        show (if (base ++ R).length ≤ line then some (M.d (.int (base ++ R).length)) else none) = _
        rw [l4, if_pos (show base.length ≤ line from b16), hL]
      obtain ⟨X, x1, x2, x3, x4, x5, lc⟩ := way2 (base ++ R) a (some (.lst [.str "kind", .str "far", .str "nought", .str "lack", .str "told", .str "dry", .str "refused", .str "name", .str "call", .str "number", .str "do", .str "truth", .str "root"])) (some (.d (.int 2))) (by rw [tl_app, hR, tl_rep, tl_len (base ++ repS base _), tl_app, tl_rep, btl]; first | exact rep_two _ _ | exact rep_nil _ _) (by omega) (by rw [pcs_app, bp, rp]; rfl) (by omega) ar.1 (by rw [l4]; omega)
      simp -dsimp [← hk, hl1, show 0 ≤ k by omega, show k ≤ 1000 by omega, ← hb, b16, b10, ln, ln2, cL, c2, rl, show ¬ L = 0 by omega, ← hR, ← ha, lc]
      exact h X g x1 x2 x3 x4 (fun w hw => x5 w (List.mem_of_mem_head? (by rw [hw]; rfl))) hg
  have c3 : way = 3 := by omega
  subst c3
  have d3 : divOk 3 = true := divOk_of (by decide) (by decide)
  obtain ⟨tail, htail⟩ : ∃ T : Int → Str, ∀ r : Int, 0 ≤ r ∧ r < 3 → pcs (T r) = true ∧ ((T r).length : Int) = r ∧ (∀ x ∈ tl (T r), 48 ≤ x ∧ x ≤ 57) ∧ (tl (T r)).head? ≠ some 48 ∧ atI [D.str "", .str "1", .str "12"] r = some (.str (T r)) := by
    refine ⟨fun r => if r = 0 then "" else if r = 1 then "1" else "12", fun r hr => ?_⟩
    have : r = 0 ∨ r = 1 ∨ r = 2 := by omega
    rcases this with e | e | e <;> subst e
    · exact ⟨by decide +kernel, by decide +kernel, by decide +kernel, by decide +kernel, by simp⟩
    · exact ⟨by decide +kernel, by decide +kernel, by decide +kernel, by decide +kernel, by simp⟩
    · exact ⟨by decide +kernel, by decide +kernel, by decide +kernel, by decide +kernel, by simp⟩
  have qr : ∀ j : Nat, 0 ≤ (turn + (j : Int).fdiv 3).fmod 26 ∧ (turn + (j : Int).fdiv 3).fmod 26 < 26 := fun j => by rw [fmod_pos (by decide)]; omega
  have rr : ∀ j : Nat, 0 ≤ (j : Int).fmod 3 ∧ (j : Int).fmod 3 < 3 := fun j => by rw [fmod_pos (by decide)]; omega
  have lc : ∀ s3 s4, mLc [9] (iRng1 (eN 1)) (gN 9) tTrue (eM (mBin addD (eM (mBin ixD (eN 2) (eM (mBin modD (eM (mBin addD (eN 5) (eM (mBin fdivD (eN 9) (eC (.int 3)))))) (eC (.int 26)))))) (eM (mBin ixD (eM (mLst (aCons (eC (.str "")) (aCons (eC (.str "1")) (aCons (eC (.str "12")) aNil))))) (eM (mBin modD (eN 9) (eC (.int 3)))))))) [some g.enc, some (.d (.int 5)), some (.d (.str "abcdefghijklmnopqrstuvwxyz")), s3, s4, some (.d (.int turn)), some (.d (.str base)), none, none, none, none] = .ok (.lst ((List.range 5).map fun j : Nat => .str ((⟨#[97 + ((turn + (j : Int).fdiv 3).fmod 26).toNat]⟩ : Str) ++ tail ((j : Int).fmod 3)))) [some g.enc, some (.d (.int 5)), some (.d (.str "abcdefghijklmnopqrstuvwxyz")), s3, s4, some (.d (.int turn)), some (.d (.str base)), none, none, none, none] := by
    intro s3 s4
    have e2 := mLc_ts (own := [9]) (fi := iRng1 (eN 1)) (g := gN 9) (fe := eM (mBin addD (eM (mBin ixD (eN 2) (eM (mBin modD (eM (mBin addD (eN 5) (eM (mBin fdivD (eN 9) (eC (.int 3)))))) (eC (.int 26)))))) (eM (mBin ixD (eM (mLst (aCons (eC (.str "")) (aCons (eC (.str "1")) (aCons (eC (.str "12")) aNil))))) (eM (mBin modD (eN 9) (eC (.int 3)))))))) (S := [some g.enc, some (.d (.int 5)), some (.d (.str "abcdefghijklmnopqrstuvwxyz")), s3, s4, some (.d (.int turn)), some (.d (.str base)), none, none, none, none]) (S1 := [some g.enc, some (.d (.int 5)), some (.d (.str "abcdefghijklmnopqrstuvwxyz")), s3, s4, some (.d (.int turn)), some (.d (.str base)), none, none, none, none]) (ts := List.range 5) (fun j : Nat => D.int (j : Int)) (fun j : Nat => .str ((⟨#[97 + ((turn + (j : Int).fdiv 3).fmod 26).toNat]⟩ : Str) ++ tail ((j : Int).fmod 3))) (by rw [← rng5]; simp -dsimp) (by
      intro j hj
      obtain ⟨p1, p2, _, _, hT⟩ := htail _ (rr j)
      have hr := qr j
      obtain ⟨q, hq⟩ : ∃ q : Int, q = (turn + (j : Int).fdiv 3).fmod 26 := ⟨_, rfl⟩
      obtain ⟨u, hu⟩ : ∃ q : Int, q = (j : Int).fmod 3 := ⟨_, rfl⟩
      rw [← hq] at hr ⊢
      have hru := rr j
      rw [← hu] at p1 p2 hT hru ⊢
      have ai := abc_is q hr.1 hr.2
      have ab : Str.length ⟨#[97 + q.toNat]⟩ + (tail u).length ≤ 16777216 := by show 1 + _ ≤ _; omega
      refine ⟨[some g.enc, some (.d (.int 5)), some (.d (.str "abcdefghijklmnopqrstuvwxyz")), s3, s4, some (.d (.int turn)), some (.d (.str base)), none, none, some (.d (.int (j : Int))), none], rfl, ?_⟩
      simp -dsimp [wipeS, d3, ← hq, ← hu, ai, abc_len, hT, ab]) (by rw [List.length_range]; decide)
    rw [e2]
    rfl
  simp -dsimp [← hk, hl1, show 0 ≤ k by omega, show k ≤ 1000 by omega, ← hb, lc]
  have e : ((List.range 5).map fun j : Nat => D.str ((⟨#[97 + ((turn + (j : Int).fdiv 3).fmod 26).toNat]⟩ : Str) ++ tail ((j : Int).fmod 3))) = ((List.range 5).map fun j : Nat => ((⟨#[97 + ((turn + (j : Int).fdiv 3).fmod 26).toNat]⟩ : Str) ++ tail ((j : Int).fmod 3))).map D.str := by rw [List.map_map]; rfl
  rw [e]
  refine h _ g (by rw [List.length_map, List.length_range]) (fun w hw => ?_) (fun w hw => ?_) (nodup_mapO (fun i hi j hj e => ?_) List.nodup_range) (fun w hw e => ?_) hg
  rotate_left
  rotate_left
  rotate_left
  · have hw : ((⟨#[97 + ((turn + (((0 : Nat) : Int)).fdiv 3).fmod 26).toNat]⟩ : Str) ++ tail ((((0 : Nat) : Int)).fmod 3)) = w := Option.some.inj hw
    have hr := qr 0
    have h57 : (57 : Nat) ∈ tl w := by rw [e]; decide +kernel
    have e0 := (htail 0 (by decide)).2.1
    have e1 : tl (tail 0) = [] := List.eq_nil_of_length_eq_zero (by rw [← tl_len]; omega)
    rw [← hw, tl_app, tl_one, show (((0 : Nat) : Int)).fmod 3 = 0 by decide, e1] at h57
    have := List.mem_singleton.mp h57
    omega
  rotate_left
  · obtain ⟨j, _, rfl⟩ := List.mem_map.mp hw
    obtain ⟨_, p2, p3, p4, _⟩ := htail _ (rr j)
    have hr := qr j
    have hru := rr j
    obtain ⟨q, hq⟩ : ∃ q : Nat, q = 97 + ((turn + (j : Int).fdiv 3).fmod 26).toNat := ⟨_, rfl⟩
    rw [← hq]
    have e : tl ((⟨#[q]⟩ : Str) ++ tail ((j : Int).fmod 3)) = List.replicate 1 q ++ tl (tail ((j : Int).fmod 3)) := by rw [tl_app, tl_one]; rfl
    exact word_of e (fun x hx => by rw [List.eq_of_mem_replicate hx]; omega) p3 (by simp) (by simp) (by rw [← tl_len]; omega) p4 (not_KP1 (by omega) e p3)
  · have hi := List.mem_range.mp hi
    have hj := List.mem_range.mp hj
    have e2 := congrArg tl e
    rw [tl_app, tl_app, tl_one, tl_one] at e2
    obtain ⟨e3, e4⟩ := List.cons.inj (show _ :: tl (tail ((i : Int).fmod 3)) = _ :: tl (tail ((j : Int).fmod 3)) from e2)
    have e5 := congrArg List.length e4
    rw [← tl_len, ← tl_len] at e5
    have a1 := (htail _ (rr i)).2.1
    have a2 := (htail _ (rr j)).2.1
    have a := qr i
    have b := qr j
    have m1 := fmod_pos (a := turn + (i : Int).fdiv 3) (b := 26) (by decide)
    have m2 := fmod_pos (a := turn + (j : Int).fdiv 3) (b := 26) (by decide)
    have m3 := fmod_pos (a := (i : Int)) (b := 3) (by decide)
    have m4 := fmod_pos (a := (j : Int)) (b := 3) (by decide)
    have m5 := fdiv_pos (a := (i : Int)) (b := 3) (by decide)
    have m6 := fdiv_pos (a := (j : Int)) (b := 3) (by decide)
    omega
  obtain ⟨j, _, rfl⟩ := List.mem_map.mp hw
  obtain ⟨p1, p2, _⟩ := htail _ (rr j)
  have hru := rr j
  have hr := qr j
  exact ⟨by rw [pcs_app, pcs_one (by omega), p1]; rfl, by rw [len_app]; show 1 + _ ≤ 12; omega⟩
noncomputable def Kd.bare : Kd → Bool
  | .num _ | .tru _ | .nam _ => true
  | _ => false
theorem ne_unit {x : D} {xs : List D} (h : (D.tup (x :: xs)).pl = true) : neD (.tup (x :: xs)) (.tup []) = some (.d (.bl true)) := by
  rw [neD_ap, eqOk_ap, h, if_pos (show (true && (D.tup []).pl && decide (min (D.tup (x :: xs)).dep (D.tup []).dep ≤ 190)) = true by
    have : min (D.tup (x :: xs)).dep (D.tup []).dep ≤ 190 := Nat.le_trans (Nat.min_le_right _ _) (by decide)
    rw [decide_eq_true this]; rfl)]
  rfl
theorem eq_unit {x : D} {xs : List D} (h : (D.tup (x :: xs)).pl = true) : eqD (.tup (x :: xs)) (.tup []) = some (.d (.bl false)) := by
  rw [eqD_ap, eqOk_ap, h, if_pos (show (true && (D.tup []).pl && decide (min (D.tup (x :: xs)).dep (D.tup []).dep ≤ 190)) = true by
    have : min (D.tup (x :: xs)).dep (D.tup []).dep ≤ 190 := Nat.le_trans (Nat.min_le_right _ _) (by decide)
    rw [decide_eq_true this]; rfl)]
  rfl
theorem mk_tup (k : Kd) (ds : List D) : ∃ es, k.mk ds = .tup (.str k.nm :: es) := by cases k <;> exact ⟨_, rfl⟩
theorem PLAIN_eq : c_PLAIN = .tup ((["number", "truth", "name"] : List Str).map D.str) := rfl
theorem SIGNS_eq : c_SIGNS = .tup (SG.map D.str) := rfl
theorem bare_nm (k : Kd) : decide (k.nm ∈ (["number", "truth", "name"] : List Str)) = k.bare := by
  cases k <;> simp [Kd.nm, Kd.bare]
theorem bare_eq (n : Nat) (t : Tr) (hp : t.d.pl = true) (k : Kd) (hk : ∃ xs, t = .nd k xs) : den (n + 1) "is_bare" [.d t.d] = .ok (.d (.bl k.bare)) [some (.d t.d)] := by
  obtain ⟨xs, rfl⟩ := hk
  obtain ⟨es, e⟩ := mk_tup k (Tr.ds xs)
  have e : (Tr.nd k xs).d = .tup (.str k.nm :: es) := e
  rw [e] at hp ⊢
  have h1 := ne_unit hp
  have h2 : inD (.str k.nm) c_PLAIN = some (.d (.bl k.bare)) := by
    rw [PLAIN_eq, inD_strT, bare_nm]
  refine eq_of_wp ?_
  rw [den_is_bare]
  refine run_wp rfl ?_
  unfold b_is_bare
  simp -dsimp [List.replicate, isiK, ↓h1, h2, atI_0]
theorem isrow_eq (n : Nat) (ds : List D) (h : ds.length ≤ 4) : den (n + 1) "is_row" [.d (.tup ds)] = .ok (.d (.bl true)) [some (.d (.tup ds))] := by
  refine eq_of_wp ?_
  rw [den_is_row]
  refine run_wp rfl ?_
  unfold b_is_row
  simp -dsimp [List.replicate, isiK, c_MOST_ARGS, show (ds.length : Int) ≤ 4 by omega]
theorem ft_eq (n : Nat) (i a b : Int) (h1 : a ≤ i) (h2 : i ≤ b) : den (n + 2) "is_from_to" [.d (.int i), .d (.int a), .d (.int b)] = .ok (.d (.bl true)) [some (.d (.int i)), some (.d (.int a)), some (.d (.int b))] := by
  have hw : den (n + 1) "is_whole" [.d (.int i)] = .ok (.d (.bl true)) [some (.d (.int i))] := by
    rw [den_is_whole]
    unfold g_is_whole b_is_whole
    simp -dsimp [List.replicate, isiK]
  refine eq_of_wp ?_
  rw [den_is_from_to]
  refine run_wp rfl ?_
  unfold b_is_from_to
  simp -dsimp [List.replicate, hw, h1, h2]
/-- kinds that has_words is asked of -/
noncomputable def Kd.named : Kd → Prop
  | .nam _ | .rai _ | .let_ _ | .loop _ _ | .try_ _ | .call _ | .melt _ _ => True
  | _ => False
theorem hasw_eq (n : Nat) (k : Kd) (ds : List D) (har : k.ar ds.length) (hw : k.wk) (ht : k.tk ds.length) (hk : k.named) :
    den (n + 3) "has_words" [.d (k.mk ds)] = .ok (.d (.bl true)) [some (.d (k.mk ds))] := by
  have we : ∀ w : Str, Wd w → wordB w = true → den (n + 2) "is_word" [.d (.str w)] = .ok (.d (.bl true)) [some (.d (.str w))] := fun w h1 h2 => by
    rw [word_eq n w (by have := h1.2; omega), h2]
  refine eq_of_wp ?_
  rw [den_has_words]
  refine run_wp rfl ?_
  unfold b_has_words
  cases k with
  | nam w =>
    have e := we w hw ht
    have m : (Kd.nam w).mk ds = .tup [.str "name", .str w] := rfl
    rw [m]
    simp -dsimp [List.replicate, e]
  | rai w =>
    have e := we w hw ht
    have m : (Kd.rai w).mk ds = .tup [.str "raise", .str w] := rfl
    rw [m]
    simp -dsimp [List.replicate, e]
  | let_ w =>
    have e := we w hw ht
    have m : (Kd.let_ w).mk ds = .tup (.str "let" :: .str w :: ds) := rfl
    rw [m]
    simp -dsimp [List.replicate, e]
  | loop w w2 =>
    have e := we w hw.1 ht.1
    have e2 := we w2 hw.2 ht.2.1
    have ne : (w == w2) = false := by simpa using ht.2.2
    have m : (Kd.loop w w2).mk ds = .tup [.str "loop", .str w, ds.getD 0 .non, .str w2, ds.getD 1 .non, ds.getD 2 .non] := rfl
    rw [m]
    simp -dsimp [List.replicate, e, e2, ne]
  | try_ w =>
    have e := we w hw ht
    have m : (Kd.try_ w).mk ds = .tup [.str "try", ds.getD 0 .non, .str w, ds.getD 1 .non] := rfl
    rw [m]
    simp -dsimp [List.replicate, e]
  | call w =>
    have e := we w hw ht.1
    have m : (Kd.call w).mk ds = .tup [.str "call", .str w, .tup ds] := rfl
    rw [m]
    simp -dsimp [List.replicate, e]
  | melt w ws =>
    have e := we w hw.1 ht.1
    obtain ⟨es, l, m⟩ : ∃ es l, (Kd.melt w ws).mk ds = .tup [.str "melt", .str w, .tup es, l] := ⟨_, _, rfl⟩
    rw [m]
    simp -dsimp [List.replicate, e]
  | _ => exact (show False from hk).elim
/-- a comprehension with a test over things that are told by others -/
theorem lcL_tf {α : Type} {own : List Nat} {g : FG} {t : FB} {fe : FE} (a b : α → D) (p : α → Bool) (S0 : SS) : ∀ (ts : List α) (S : SS) (acc : List D), wipeS S own = S0 →
    (∀ x ∈ ts, ∃ S2, g (a x) S0 = some S2 ∧ (t S2).wp fun c S3 => c = p x ∧ (c = false → wipeS S3 own = S0) ∧ (c = true → (fe S3).wp fun o S4 => ∃ S5, force o S4 = some (b x, S5) ∧ wipeS S5 own = S0)) →
    acc.length + ts.length ≤ line → ∃ S', lcL own g t fe (ts.map a) S acc = .ok (acc ++ (ts.filter p).map b) S' ∧ wipeS S' own = S0
  | [], S, acc, hS, _, _ => ⟨S, by simp [lcL], hS⟩
  | x :: ts, S, acc, hS, h, hl => by
    obtain ⟨S2, h1, h2⟩ := h x (List.mem_cons_self ..)
    have hr := fun y hy => h y (List.mem_cons_of_mem _ hy)
    simp only [List.length_cons] at hl
    obtain ⟨c, S3, e, h3, h4, h5⟩ := R.wp_ok' h2
    show ∃ S', (match g (a x) (wipeS S own) with
      | none => R.no
      | some S1 => (t S1).bind fun b S2 => if b = true then (fe S2).bind fun o S3 => (match force o S3 with
          | some (x, S4) => if acc.length < line then lcL own g t fe (ts.map a) S4 (acc ++ [x]) else .no
          | none => .no) else lcL own g t fe (ts.map a) S2 acc) = _ ∧ wipeS S' own = S0
    rw [hS, h1]
    dsimp only
    rw [e, bind_ok]
    cases c with
    | false =>
      rw [if_neg (by decide), List.filter_cons_of_neg (by rw [← h3]; decide)]
      exact lcL_tf a b p S0 ts S3 acc (h4 rfl) hr (by omega)
    | true =>
      obtain ⟨o, S4, e2, S5, h6, h7⟩ := R.wp_ok' (h5 rfl)
      rw [if_pos rfl, e2, bind_ok, h6, List.filter_cons_of_pos h3.symm]
      dsimp only
      rw [if_pos (Nat.lt_of_lt_of_le (show acc.length < acc.length + (ts.length + 1) by omega) hl)]
      obtain ⟨S', e1, e2⟩ := lcL_tf a b p S0 ts S5 (acc ++ [b x]) h7 hr (by rw [List.length_append, List.length_singleton]; omega)
      exact ⟨S', by rw [e1]; simp, e2⟩
theorem mLc_tf {α : Type} {own : List Nat} {fi : FI} {g : FG} {t : FB} {fe : FE} {S S1 : SS} {ts : List α} (a b : α → D) (p : α → Bool) (h : fi S = .ok (ts.map a) S1)
    (hs : ∀ x ∈ ts, ∃ S2, g (a x) (wipeS S1 own) = some S2 ∧ (t S2).wp fun c S3 => c = p x ∧ (c = false → wipeS S3 own = wipeS S1 own) ∧ (c = true → (fe S3).wp fun o S4 => ∃ S5, force o S4 = some (b x, S5) ∧ wipeS S5 own = wipeS S1 own))
    (hl : ts.length ≤ line) : mLc own fi g t fe S = .ok (.lst ((ts.filter p).map b)) (restS S1 S1 own) := by
  unfold mLc
  rw [h, bind_ok]
  obtain ⟨S', e1, e2⟩ := lcL_tf a b p (wipeS S1 own) ts S1 [] rfl hs (by simpa using hl)
  rw [e1, bind_ok, List.nil_append]
  rw [← restS_wipe S1 S', e2, restS_wipe]
noncomputable def Tr.bare : Tr → Bool
  | .nd k _ => k.bare
theorem bare_t (n : Nat) (t : Tr) (hp : t.d.pl = true) : den (n + 1) "is_bare" [.d t.d] = .ok (.d (.bl t.bare)) [some (.d t.d)] := by
  cases t with
  | nd k xs => exact bare_eq n (.nd k xs) hp k ⟨xs, rfl⟩
theorem pairs_eq (n : Nat) (ws : List Str) (ys : List Tr) (hl : ys.length = ws.length) (h4 : ws.length ≤ 4) (hw : ∀ w ∈ ws, Wd w) (hb : ∀ w ∈ ws, wordB w = true) (hn : ws.Nodup) (hp : ∀ y ∈ ys, y.d.pl = true) :
    den (n + 3) "are_pairs" [.d (.tup (prs ws (Tr.ds ys)))] = .ok (.d (.bl true)) [some (.d (.tup (prs ws (Tr.ds ys))))] := by
  have hlen : (prs ws (Tr.ds ys)).length = ws.length := prs_len (by rw [ds_len]; exact hl)
  have re := isrow_eq (n + 1) (prs ws (Tr.ds ys)) (by omega)
  have zl : (List.zip ws ys).length = ws.length := by rw [List.length_zip, hl]; exact Nat.min_self _
  obtain ⟨vs, hvs⟩ : ∃ vs : List Str, vs = ((List.zip ws ys).filter fun p => !p.2.bare).map (·.1) := ⟨_, rfl⟩
  have vsub : vs.Sublist ws := by
    have e : (List.zip ws ys).map (·.1) = ws := by
      rw [List.map_fst_zip (by omega)]
    have s : vs.Sublist ((List.zip ws ys).map (·.1)) := by
      rw [hvs]
      exact (List.filter_sublist ..).map _
    rw [e] at s
    exact s
  have vn : vs.Nodup := hn.sublist vsub
  have vl : vs.length ≤ 4 := Nat.le_trans vsub.length_le h4
  have ls := lenSet_strs vs (by omega)
  rw [ddl_nodup vn] at ls
  obtain ⟨P, hP⟩ : ∃ P, P = prs ws (Tr.ds ys) := ⟨_, rfl⟩
  have lc : ∀ s1, mLc [3, 4] (iSeq (eN 0)) (gT 2 (gsCons (gN 3) (gsCons (gN 4) gsNil))) (tNot' (tM (mCall (den (n + 2) "is_bare") (aCons (eN 4) aNil)))) (eN 3) [some (.d (.tup P)), s1, none, none, none] = .ok (.lst (vs.map .str)) [some (.d (.tup P)), s1, none, none, none] := by
    intro s1
    have e2 := mLc_tf (own := [3, 4]) (fi := iSeq (eN 0)) (g := gT 2 (gsCons (gN 3) (gsCons (gN 4) gsNil))) (t := tNot' (tM (mCall (den (n + 2) "is_bare") (aCons (eN 4) aNil)))) (fe := eN 3) (S := [some (.d (.tup P)), s1, none, none, none]) (S1 := [some (.d (.tup P)), s1, none, none, none]) (ts := List.zip ws ys) (fun p => D.tup [.str p.1, p.2.d]) (fun p => .str p.1) (fun p => !p.2.bare) (by
      rw [hP, prs_zip]
      simp -dsimp) (by
      intro p hp2
      have hy := hp p.2 (zip_mem hp2)
      have be := bare_t (n + 1) p.2 hy
      refine ⟨[some (.d (.tup P)), s1, none, some (.d (.str p.1)), some (.d p.2.d)], rfl, ?_⟩
      simp -dsimp [be, wipeS]) (by rw [zl]; show _ ≤ 16777216; omega)
    rw [e2, hvs, List.map_map]
    rfl
  rw [← hP] at re hlen ⊢
  refine eq_of_wp ?_
  rw [den_are_pairs]
  refine run_wp rfl ?_
  unfold b_are_pairs
  simp -dsimp [List.replicate, re]
  obtain ⟨J, hJ⟩ : ∃ J : SS → Prop, J = fun S => ∃ (s1 : Option Ev.M), S = [some (.d (.tup P)), s1, none, none, none] := ⟨_, rfl⟩
  refine wp_for1 (fun d => ∃ w y, d = .tup [.str w, y] ∧ Wd w ∧ wordB w = true) J (fun d hd => ?_) (by rw [hJ]; exact ⟨_, rfl⟩) ?_ ?_
  · rw [hP] at hd
    obtain ⟨w, x, e, _, hx⟩ := prs_mem hd
    exact ⟨w, x, e, hw w hx, hb w hx⟩
  · rintro d S ⟨w, y, rfl, h1, h2⟩ hS
    rw [hJ] at hS
    obtain ⟨s1, rfl⟩ := hS
    have we : den (n + 2) "is_word" [.d (.str w)] = .ok (.d (.bl true)) [some (.d (.str w))] := by
      rw [word_eq n w (by have := h1.2; omega), h2]
    refine ⟨[some (.d (.tup P)), some (.d (.tup [.str w, y])), none, none, none], rfl, ?_⟩
    simp -dsimp [isiK, we]
    rw [hJ]
    exact ⟨_, rfl⟩
  · intro S hS
    rw [hJ] at hS
    obtain ⟨s1, rfl⟩ := hS
    simp -dsimp [lc, ls, show vs.length ≤ 16777216 by omega]
theorem counted_mt (n : Nat) (w : Str) (ws : List Str) (ys : List Tr) (l : Tr) (hl : ys.length = ws.length) (h4 : ws.length ≤ 4) (hp : ∀ y ∈ ys, y.d.pl = true) :
    ∃ cs : List D, cs.length ≤ ws.length + 1 ∧ den (n + 2) "counted_parts" [.d (.tup [.str "melt", .str w, .tup (prs ws (Tr.ds ys)), l.d])] = .ok (.lst cs) [some (.d (.tup [.str "melt", .str w, .tup (prs ws (Tr.ds ys)), l.d]))] := by
  have zl : (List.zip ws ys).length = ws.length := by rw [List.length_zip, hl]; exact Nat.min_self _
  obtain ⟨P, hP⟩ : ∃ P, P = prs ws (Tr.ds ys) := ⟨_, rfl⟩
  obtain ⟨vs, hvs⟩ : ∃ vs : List D, vs = ((List.zip ws ys).filter fun p => !p.2.bare).map (·.2.d) := ⟨_, rfl⟩
  have vl : vs.length ≤ ws.length := by
    rw [hvs, List.length_map, ← zl]
    exact List.length_filter_le ..
  have lc : mLc [1, 2] (iSeq (eM (mBin ixD (eN 0) (eC (.int 2))))) (gT 2 (gsCons (gN 1) (gsCons (gN 2) gsNil))) (tNot' (tM (mCall (den (n + 1) "is_bare") (aCons (eN 2) aNil)))) (eN 2) [some (.d (.tup [.str "melt", .str w, .tup P, l.d])), none, none] = .ok (.lst vs) [some (.d (.tup [.str "melt", .str w, .tup P, l.d])), none, none] := by
    have e2 := mLc_tf (own := [1, 2]) (fi := iSeq (eM (mBin ixD (eN 0) (eC (.int 2))))) (g := gT 2 (gsCons (gN 1) (gsCons (gN 2) gsNil))) (t := tNot' (tM (mCall (den (n + 1) "is_bare") (aCons (eN 2) aNil)))) (fe := eN 2) (S := [some (.d (.tup [.str "melt", .str w, .tup P, l.d])), none, none]) (S1 := [some (.d (.tup [.str "melt", .str w, .tup P, l.d])), none, none]) (ts := List.zip ws ys) (fun p => D.tup [.str p.1, p.2.d]) (fun p => p.2.d) (fun p => !p.2.bare) (by
      rw [← prs_zip, ← hP]
      simp -dsimp) (by
      intro p hp2
      have hy := hp p.2 (zip_mem hp2)
      have be := bare_t n p.2 hy
      refine ⟨[some (.d (.tup [.str "melt", .str w, .tup P, l.d])), some (.d (.str p.1)), some (.d p.2.d)], rfl, ?_⟩
      simp -dsimp [be, wipeS]) (by rw [zl]; show _ ≤ 16777216; omega)
    rw [e2, hvs]
    rfl
  rw [← hP]
  refine ⟨vs ++ [l.d], by rw [List.length_append]; exact Nat.succ_le_succ vl, eq_of_wp ?_⟩
  rw [den_counted_parts]
  refine run_wp rfl ?_
  unfold b_counted_parts
  simp -dsimp [List.replicate, lc, show vs.length + 1 ≤ 16777216 by omega]
theorem node_ok (n : Nat) (k : Kd) (xs : List Tr) (ho : (Tr.nd k xs).ok) (hw : (Tr.nd k xs).wk) (ht : (Tr.nd k xs).tk) : den (n + 4) "is_node" [.d (Tr.nd k xs).d] = .ok (.d (.bl true)) [some (.d (Tr.nd k xs).d)] := by
  have hp := (pft_ok _ (tr_pft _ ho hw)).1
  obtain ⟨ha, ho⟩ : k.ar xs.length ∧ Tr.oks xs := ho
  obtain ⟨kw, hw⟩ : k.wk ∧ Tr.wks xs := hw
  obtain ⟨kt, ht⟩ : k.tk xs.length ∧ Tr.tks xs := ht
  have hwd : k.named → den (n + 3) "has_words" [.d (k.mk (Tr.ds xs))] = .ok (.d (.bl true)) [some (.d (k.mk (Tr.ds xs)))] := fun h => hasw_eq n k (Tr.ds xs) (by rw [ds_len]; exact ha) kw (by rw [ds_len]; exact kt) h
  have hd : (Tr.nd k xs).d = k.mk (Tr.ds xs) := rfl
  rw [hd] at hp ⊢
  refine eq_of_wp ?_
  rw [den_is_node]
  refine run_wp rfl ?_
  unfold b_is_node
  cases k with
  | num i =>
    have ft := ft_eq (n + 1) i 0 1000000000 kw.1 kw.2
    have m : (Kd.num i).mk (Tr.ds xs) = .tup [.str "number", .int i] := rfl
    rw [m] at hp ⊢
    have h0 := eq_unit hp
    simp -dsimp [List.replicate, isiK, ↓h0, tabAt, t_SHAPES, inD_t2, ft, c_MOST_NUMBER]
  | tru b =>
    have m : (Kd.tru b).mk (Tr.ds xs) = .tup [.str "truth", .bl b] := rfl
    rw [m] at hp ⊢
    have h0 := eq_unit hp
    simp -dsimp [List.replicate, isiK, ↓h0, tabAt, t_SHAPES, inD_t2]
  | nam w =>
    have hh := hwd trivial
    have m : (Kd.nam w).mk (Tr.ds xs) = .tup [.str "name", .str w] := rfl
    rw [m] at hp ⊢
    rw [m] at hh
    have h0 := eq_unit hp
    simp -dsimp [List.replicate, isiK, ↓h0, tabAt, t_SHAPES, inD_t2, hh]
  | rai w =>
    have hh := hwd trivial
    have m : (Kd.rai w).mk (Tr.ds xs) = .tup [.str "raise", .str w] := rfl
    rw [m] at hp ⊢
    rw [m] at hh
    have h0 := eq_unit hp
    simp -dsimp [List.replicate, isiK, ↓h0, tabAt, t_SHAPES, inD_t2, hh]
  | do_ w =>
    obtain ⟨a, b, rfl⟩ := len2 (show xs.length = 2 from ha)
    have sg : inD (.str w) c_SIGNS = some (.d (.bl true)) := by rw [SIGNS_eq, inD_strT, decide_eq_true (show w ∈ SG from kt)]
    have m : (Kd.do_ w).mk (Tr.ds [a, b]) = .tup [.str "do", .str w, a.d, b.d] := rfl
    rw [m] at hp ⊢
    have h0 := eq_unit hp
    simp -dsimp [List.replicate, isiK, ↓h0, tabAt, t_SHAPES, inD_t2, sg]
  | let_ w =>
    obtain ⟨a, b, rfl⟩ := len2 (show xs.length = 2 from ha)
    have hh := hwd trivial
    have m : (Kd.let_ w).mk (Tr.ds [a, b]) = .tup [.str "let", .str w, a.d, b.d] := rfl
    rw [m] at hp ⊢
    rw [m] at hh
    have h0 := eq_unit hp
    simp -dsimp [List.replicate, isiK, ↓h0, tabAt, t_SHAPES, inD_t2, hh]
  | pick i =>
    obtain ⟨a, rfl⟩ := len1 (show xs.length = 1 from ha)
    have ft := ft_eq (n + 1) i 1 4 kt.1 kt.2
    have m : (Kd.pick i).mk (Tr.ds [a]) = .tup [.str "pick", .int i, a.d] := rfl
    rw [m] at hp ⊢
    have h0 := eq_unit hp
    simp -dsimp [List.replicate, isiK, ↓h0, tabAt, t_SHAPES, inD_t2, ft, c_MOST_ARGS]
  | mark i =>
    obtain ⟨a, rfl⟩ := len1 (show xs.length = 1 from ha)
    have ft := ft_eq (n + 1) i 0 1000000000 kw.1 kw.2
    have m : (Kd.mark i).mk (Tr.ds [a]) = .tup [.str "mark", .int i, a.d] := rfl
    rw [m] at hp ⊢
    have h0 := eq_unit hp
    simp -dsimp [List.replicate, isiK, ↓h0, tabAt, t_SHAPES, inD_t2, ft, c_MOST_NUMBER]
  | many =>
    obtain ⟨a, rfl⟩ := len1 (show xs.length = 1 from ha)
    have m : (Kd.many).mk (Tr.ds [a]) = .tup [.str "many", a.d] := rfl
    rw [m] at hp ⊢
    have h0 := eq_unit hp
    simp -dsimp [List.replicate, isiK, ↓h0, tabAt, t_SHAPES, inD_t2]
  | iff =>
    obtain ⟨a, b, c, rfl⟩ := len3 (show xs.length = 3 from ha)
    have m : (Kd.iff).mk (Tr.ds [a, b, c]) = .tup [.str "if", a.d, b.d, c.d] := rfl
    rw [m] at hp ⊢
    have h0 := eq_unit hp
    simp -dsimp [List.replicate, isiK, ↓h0, tabAt, t_SHAPES, inD_t2]
  | parts =>
    have re := isrow_eq (n + 2) (Tr.ds xs) (by rw [ds_len]; exact kt)
    have m : (Kd.parts).mk (Tr.ds xs) = .tup [.str "parts", .tup (Tr.ds xs)] := rfl
    rw [m] at hp ⊢
    have h0 := eq_unit hp
    simp -dsimp [List.replicate, isiK, ↓h0, tabAt, t_SHAPES, inD_t2, re]
  | loop w w2 =>
    obtain ⟨a, b, c, rfl⟩ := len3 (show xs.length = 3 from ha)
    have hh := hwd trivial
    have m : (Kd.loop w w2).mk (Tr.ds [a, b, c]) = .tup [.str "loop", .str w, a.d, .str w2, b.d, c.d] := rfl
    rw [m] at hp ⊢
    rw [m] at hh
    have h0 := eq_unit hp
    simp -dsimp [List.replicate, isiK, ↓h0, tabAt, t_SHAPES, inD_t2, hh]
  | try_ w =>
    obtain ⟨a, b, rfl⟩ := len2 (show xs.length = 2 from ha)
    have hh := hwd trivial
    have m : (Kd.try_ w).mk (Tr.ds [a, b]) = .tup [.str "try", a.d, .str w, b.d] := rfl
    rw [m] at hp ⊢
    rw [m] at hh
    have h0 := eq_unit hp
    simp -dsimp [List.replicate, isiK, ↓h0, tabAt, t_SHAPES, inD_t2, hh]
  | call w =>
    have hh := hwd trivial
    have re := isrow_eq (n + 2) (Tr.ds xs) (by rw [ds_len]; exact kt.2)
    have m : (Kd.call w).mk (Tr.ds xs) = .tup [.str "call", .str w, .tup (Tr.ds xs)] := rfl
    rw [m] at hp ⊢
    rw [m] at hh
    have h0 := eq_unit hp
    simp -dsimp [List.replicate, isiK, ↓h0, tabAt, t_SHAPES, inD_t2, hh, re]
  | melt w ws =>
    obtain ⟨h1, h2⟩ : xs.length = ws.length + 1 ∧ ws.length ≤ 1000 := ha
    obtain ⟨ys, l, rfl, hy⟩ := snoc_of h1
    have hh := hwd trivial
    have m : (Kd.melt w ws).mk (Tr.ds (ys ++ [l])) = .tup [.str "melt", .str w, .tup (prs ws (Tr.ds ys)), l.d] := by
      rw [ds_app]
      exact mk_melt (by rw [ds_len]; exact hy)
    have ap := pairs_eq n ws ys hy kt.2.2.2 kw.2 kt.2.1 kt.2.2.1 (fun y hy => (pft_ok _ (tr_pft y (oks_mem ho y (List.mem_append_left _ hy)) (wks_mem hw y (List.mem_append_left _ hy)))).1)
    rw [m] at hp hh ⊢
    have h0 := eq_unit hp
    simp -dsimp [List.replicate, isiK, ↓h0, tabAt, t_SHAPES, inD_t2, hh, ap]
noncomputable def wsz : List (Tr × Nat) → Nat
  | [] => 0
  | p :: ps => p.1.sz + wsz ps
theorem wsz_app (a b : List (Tr × Nat)) : wsz (a ++ b) = wsz a + wsz b := by
  induction a with
  | nil => show wsz b = 0 + _; omega
  | cons x a ih => show x.1.sz + wsz (a ++ b) = x.1.sz + wsz a + wsz b; omega
theorem wsz_map (xs : List Tr) (d : Nat) : wsz (xs.map fun x => (x, d)) = Tr.szs xs := by
  induction xs with
  | nil => rfl
  | cons x xs ih => show x.sz + wsz _ = x.sz + Tr.szs xs; omega
theorem wsz_len (a : List (Tr × Nat)) : a.length ≤ wsz a := by
  induction a with
  | nil => exact Nat.le_refl _
  | cons x a ih =>
    have := (sd_pos x.1).1
    show a.length + 1 ≤ x.1.sz + wsz a
    omega
noncomputable def pd (p : Tr × Nat) : D := .tup [p.1.d, .int p.2]
theorem tree_ok (n : Nat) (t : Tr) (ho : t.ok) (hw : t.wk) (ht : t.tk) (hd : t.dep ≤ 64) (hs : t.sz ≤ 2000) : den (n + 5) "is_tree" [.d t.d] = .ok (.d (.bl true)) [some (.d t.d)] := by
  refine eq_of_wp ?_
  rw [den_is_tree]
  refine run_wp rfl ?_
  unfold b_is_tree
  simp -dsimp [List.replicate]
  obtain ⟨I, hI⟩ : ∃ I : Nat → SS → Prop, I = fun (m : Nat) (S : SS) => ∃ (W : List (Tr × Nat)) (mn : Int) (s3 s4 s5 : Option Ev.M), (∀ p ∈ W, p.1.ok ∧ p.1.wk ∧ p.1.tk ∧ p.1.dep + p.2 ≤ 65) ∧ wsz W = m ∧ mn + m ≤ 2000 ∧ m ≤ 2000 ∧
      S = [some (.d t.d), some (.lst (W.map pd)), some (.d (.int mn)), s3, s4, s5] := ⟨_, rfl⟩
  refine wp_while I ?_ t.sz _ (by
    rw [hI]
    refine ⟨[(t, 1)], 0, _, _, _, fun p hp => ?_, by show t.sz + 0 = t.sz; omega, by omega, hs, rfl⟩
    rw [List.mem_singleton.mp hp]
    exact ⟨ho, hw, ht, by show t.dep + 1 ≤ 65; omega⟩)
  intro m S hS
  rw [hI] at hS
  obtain ⟨W, mn, s3, s4, s5, hW, hm, hmn, hm2, rfl⟩ := hS
  rcases List.eq_nil_or_concat W with e | ⟨W', p, e⟩
  · subst e
    simp -dsimp [-neD_ap, ne_nil]
  · rw [List.concat_eq_append] at e
    subst e
    obtain ⟨⟨k, xs⟩, d⟩ := p
    obtain ⟨xo, xw, xt, xd⟩ := hW _ (List.mem_append_right _ (List.mem_singleton.mpr rfl))
    have xd : Tr.deps xs + 1 + d ≤ 65 := xd
    have hsz : wsz W' + (Tr.szs xs + 1) = m := by
      rw [wsz_app] at hm
      have : wsz [((Tr.nd k xs), d)] = Tr.szs xs + 1 := by show (Tr.szs xs + 1) + 0 = _; omega
      omega
    have wl := wsz_len W'
    have xl := len_szs xs
    have no := node_ok n k xs xo xw xt
    have po : den (n + 4) "parts_of" [.d (Tr.nd k xs).d] = .ok (.lst (Tr.ds xs)) [some (.d (Tr.nd k xs).d)] := parts_of_eq (n + 3) k (Tr.ds xs) (by rw [ds_len]; exact xo.1)
    have e0 : ixD (Tr.nd k xs).d (.int 0) = some (.d (.str k.nm)) := mk_0 k (Tr.ds xs)
    have ct : (∃ w ws, k = .melt w ws) → ∃ cs : List D, cs.length ≤ xs.length ∧ den (n + 4) "counted_parts" [.d (Tr.nd k xs).d] = .ok (.lst cs) [some (.d (Tr.nd k xs).d)] := by
      rintro ⟨w, ws, rfl⟩
      obtain ⟨h1, h2⟩ : xs.length = ws.length + 1 ∧ ws.length ≤ 1000 := xo.1
      obtain ⟨ys, l, rfl, hy⟩ := snoc_of h1
      obtain ⟨cs, c1, c2⟩ := counted_mt (n + 2) w ws ys l hy xt.1.2.2.2 (fun y hy => (pft_ok _ (tr_pft y (oks_mem xo.2 y (List.mem_append_left _ hy)) (wks_mem xw.2 y (List.mem_append_left _ hy)))).1)
      have m : (Tr.nd (.melt w ws) (ys ++ [l])).d = .tup [.str "melt", .str w, .tup (prs ws (Tr.ds ys)), l.d] := by
        show (Kd.melt w ws).mk (Tr.ds (ys ++ [l])) = _
        rw [ds_app]
        exact mk_melt (by rw [ds_len]; exact hy)
      rw [m]
      exact ⟨cs, by rw [h1]; exact c1, c2⟩
    obtain ⟨o, ho⟩ : ∃ o, o = (Tr.nd k xs).d := ⟨_, rfl⟩
    have pe : pd (Tr.nd k xs, d) = .tup [o, .int d] := by rw [ho]; rfl
    rw [← ho] at no po e0 ct
    have hdp : ¬ (64 : Int) < (d : Int) := by omega
    rw [List.map_append, List.map_cons, List.map_nil, pe]
    simp -dsimp [-neD_ap, ne_nil, c_MOST_DEPTH, hdp, no, po]
    obtain ⟨J, hJ⟩ : ∃ J : List D → SS → Prop, J = fun ds S => ∃ (dn rem : List Tr) (s3 : Option Ev.M), xs = dn ++ rem ∧ ds = Tr.ds rem ∧
        S = [some (.d t.d), some (.lst ((W' ++ dn.map fun x => (x, d + 1)).map pd)), some (.d (.int (mn + 1))), s3, some (.d o), some (.d (.int (d : Int)))] := ⟨_, rfl⟩
    refine wp_forL J ?_ ?_ (Tr.ds xs) _ (by rw [hJ]; exact ⟨[], xs, _, rfl, rfl, by rw [List.map_nil, List.append_nil]⟩)
    · intro S hS
      rw [hJ] at hS
      obtain ⟨dn, rem, s3, e1, e2, rfl⟩ := hS
      have e3 : rem = [] := by
        cases rem with
        | nil => rfl
        | cons a b => cases e2
      subst e3
      rw [List.append_nil] at e1
      subst e1
      have nW : ∀ p ∈ W' ++ xs.map (fun x => (x, d + 1)), p.1.ok ∧ p.1.wk ∧ p.1.tk ∧ p.1.dep + p.2 ≤ 65 := by
        intro p hp
        rcases List.mem_append.mp hp with hp | hp
        · exact hW p (List.mem_append_left _ hp)
        · obtain ⟨x, hx, rfl⟩ := List.mem_map.mp hp
          have hx2 := deps_mem (Nat.le_refl _) x hx
          refine ⟨oks_mem xo.2 x hx, wks_mem xw.2 x hx, tks_mem xt.2 x hx, ?_⟩
          show x.dep + (d + 1) ≤ 65
          omega
      have nS : wsz (W' ++ xs.map fun x => (x, d + 1)) = m - 1 := by rw [wsz_app, wsz_map]; omega
      have dl := ds_len xs
      by_cases hmelt : ∃ w ws, k = .melt w ws
      · have hk := hmelt
        obtain ⟨w, ws, rfl⟩ := hk
        obtain ⟨cs, c1, c2⟩ := ct hmelt
        obtain ⟨mn', hmn'⟩ : ∃ x : Int, x = mn + 1 - (xs.length : Int) + (cs.length : Int) := ⟨_, rfl⟩
        have e1 : (Kd.melt w ws).nm = "melt" := rfl
        rw [e1] at e0
        have big : ¬ (2000 : Int) < mn' := by omega
        simp -dsimp [-List.map_append, -List.map_map, e0, po, c2, dl, show xs.length ≤ 16777216 by omega, show cs.length ≤ 16777216 by omega, ← hmn', c_MOST_NODES, big]
        refine ⟨m - 1, by omega, ?_⟩
        rw [hI]
        exact ⟨_, mn', _, _, _, nW, nS, by omega, by omega, rfl⟩
      · have nn := nm_melt (k := k) fun w ws e => hmelt ⟨w, ws, e⟩
        have big : ¬ (2000 : Int) < mn + 1 := by omega
        simp -dsimp [-List.map_append, -List.map_map, e0, nn, c_MOST_NODES, big]
        refine ⟨m - 1, by omega, ?_⟩
        rw [hI]
        exact ⟨_, mn + 1, _, _, _, nW, nS, by omega, by omega, rfl⟩
    · intro y ys S hS
      rw [hJ] at hS
      obtain ⟨dn, rem, s3, e1, e2, rfl⟩ := hS
      cases rem with
      | nil => cases e2
      | cons x rem =>
        obtain ⟨rfl, rfl⟩ := List.cons.inj (show y :: ys = x.d :: Tr.ds rem from e2)
        have xsl : xs.length = dn.length + (rem.length + 1) := by rw [e1, List.length_append]; rfl
        refine ⟨[some (.d t.d), some (.lst ((W' ++ dn.map fun x => (x, d + 1)).map pd)), some (.d (.int (mn + 1))), some (.d x.d), some (.d o), some (.d (.int (d : Int)))], rfl, ?_⟩
        simp -dsimp [-List.map_append, -List.map_map, show W'.length + dn.length < 16777216 by omega]
        rw [hJ]
        refine ⟨dn ++ [x], rem, some (.d x.d), by rw [e1]; simp, rfl, ?_⟩
        have e4 : (W' ++ (dn ++ [x]).map fun x => (x, d + 1)).map pd = (W' ++ dn.map fun x => (x, d + 1)).map pd ++ [.tup [x.d, .int ((d : Int) + 1)]] := by
          simp [pd]
        rw [e4]
/-! the words and brackets of a text -/
noncomputable def esc (c : Nat) : List Nat := if c = 40 then [32, 40, 32] else if c = 41 then [32, 41, 32] else [c]
theorem replS_one (c : Nat) (z : List Nat) : ∀ l : List Nat, StrLaws.replS [c] z 0 l = l.flatMap fun d => if d = c then z else [d]
  | [] => rfl
  | d :: l => by
    have ih := replS_one c z l
    rw [List.flatMap_cons, ← ih]
    by_cases h : d = c
    · subst h
      rw [if_pos rfl]
      simp [StrLaws.replS]
    · rw [if_neg h]
      have h2 : ¬ c = d := fun e => h e.symm
      simp [StrLaws.replS, h, h2]
theorem esc_tl (x : Str) : tl (Txt.replace (Txt.replace x "(" " ( ") ")" " ) ") = (tl x).flatMap esc := by
  have e1 : tl ("(" : Str) = [40] := by decide +kernel
  have e2 : tl (" ( " : Str) = [32, 40, 32] := by decide +kernel
  have e3 : tl (")" : Str) = [41] := by decide +kernel
  have e4 : tl (" ) " : Str) = [32, 41, 32] := by decide +kernel
  have r1 : tl (Txt.replace x "(" " ( ") = StrLaws.replL (tl ("(" : Str)) (tl (" ( " : Str)) (tl x) := StrLaws.replace_list (by decide +kernel)
  have r2 : tl (Txt.replace (Txt.replace x "(" " ( ") ")" " ) ") = StrLaws.replL (tl (")" : Str)) (tl (" ) " : Str)) (tl (Txt.replace x "(" " ( ")) := StrLaws.replace_list (by decide +kernel)
  rw [r2, r1, e1, e2, e3, e4]
  unfold StrLaws.replL
  rw [replS_one, replS_one, List.flatMap_assoc]
  congr 1
  funext c
  unfold esc
  by_cases h : c = 40
  · subst h; decide
  · rw [if_neg h, if_neg h]
    by_cases h2 : c = 41
    · subst h2; decide
    · rw [if_neg h2]; simp [h2]
/-- the fold over a text, brackets set apart -/
noncomputable def lexS (st : List (List Nat) × List Nat) (l : List Nat) : List (List Nat) × List Nat := (l.flatMap esc).foldl TL.wstep st
theorem lexS_app (st : List (List Nat) × List Nat) (a b : List Nat) : lexS st (a ++ b) = lexS (lexS st a) b := by
  unfold lexS
  rw [List.flatMap_append, List.foldl_append]
theorem wds_lex (x : Str) : (Txt.words (Txt.replace (Txt.replace x "(" " ( ") ")" " ) ")).map tl = TL.wfin (lexS ([], []) (tl x)) := by
  have h : (Txt.words (Txt.replace (Txt.replace x "(" " ( ") ")" " ) ")).map tl = TL.wfin (List.foldl TL.wstep ([], []) (tl (Txt.replace (Txt.replace x "(" " ( ") ")" " ) "))) := TL.words_tl _
  rw [h, esc_tl]
  rfl
theorem wfin_b (st : List (List Nat) × List Nat) : lexS st [32] = (TL.wfin st, []) := by
  obtain ⟨ws, u⟩ := st
  have e : Unicode.isSpace 32 = true := by decide +kernel
  show TL.wstep (ws, u) 32 = _
  unfold TL.wstep TL.wfin
  rw [if_pos e]
  by_cases h : u = []
  · subst h; rfl
  · rw [if_neg h, if_neg h]
theorem wfin_c (st : List (List Nat) × List Nat) (c : Nat) (hc : c = 40 ∨ c = 41) : lexS st [c] = (TL.wfin st ++ [[c]], []) := by
  have e : Unicode.isSpace 32 = true := by decide +kernel
  have e2 : Unicode.isSpace c = false := by rcases hc with rfl | rfl <;> decide +kernel
  have h1 : esc c = [32, c, 32] := by rcases hc with rfl | rfl <;> decide
  have h2 := wfin_b st
  have h2 : TL.wstep st 32 = (TL.wfin st, []) := h2
  unfold lexS
  rw [List.flatMap_cons, List.flatMap_nil, List.append_nil, h1]
  show TL.wstep (TL.wstep (TL.wstep st 32) c) 32 = _
  rw [h2]
  have h3 : TL.wstep (TL.wfin st, []) c = (TL.wfin st, [c]) := by
    unfold TL.wstep
    rw [if_neg (by rw [e2]; decide)]
    rfl
  rw [h3]
  unfold TL.wstep
  rw [if_pos e]
  rfl
/-- the text l is these words -/
noncomputable def Lx (l : List Nat) (ts : List (List Nat)) : Prop := ∀ ws, TL.wfin (lexS (ws, []) l) = ws ++ ts
theorem Lx.word {w : List Nat} (h0 : w ≠ []) (h : ∀ c ∈ w, Unicode.isSpace c = false ∧ c ≠ 40 ∧ c ≠ 41) : Lx w [w] := fun ws => by
  have e : w.flatMap esc = w := by
    have : ∀ w : List Nat, (∀ c ∈ w, c ≠ 40 ∧ c ≠ 41) → w.flatMap esc = w := by
      intro w
      induction w with
      | nil => intro _; rfl
      | cons c w ih =>
        intro h
        obtain ⟨h1, h2⟩ := h c (List.mem_cons_self ..)
        rw [List.flatMap_cons, ih fun d hd => h d (List.mem_cons_of_mem _ hd)]
        unfold esc
        rw [if_neg h1, if_neg h2]
        rfl
    exact this w fun c hc => (h c hc).2
  unfold lexS
  rw [e, TL.wfold_word w ws [] fun c hc => (h c hc).1]
  unfold TL.wfin
  rw [if_neg (by simpa using h0)]
  rfl
/-- pieces with a blank between each two -/
theorem Lx.join : ∀ {ps : List (List Nat × List (List Nat))}, (∀ p ∈ ps, Lx p.1 p.2) → Lx (TL.joinL [32] (ps.map (·.1))) ((ps.map (·.2)).flatten)
  | [], _ => fun ws => by
    show TL.wfin (ws, []) = ws ++ []
    rw [List.append_nil]
    rfl
  | [p], h => fun ws => by
    have := h p (List.mem_singleton_self _) ws
    simpa [TL.joinL] using this
  | p :: q :: ps, h => fun ws => by
    have hp := h p (List.mem_cons_self ..) ws
    have ih := Lx.join (ps := q :: ps) (fun r hr => h r (List.mem_cons_of_mem _ hr)) (ws ++ p.2)
    have e : TL.joinL [32] ((p :: q :: ps).map (·.1)) = p.1 ++ ([32] ++ TL.joinL [32] ((q :: ps).map (·.1))) := by simp [TL.joinL]
    rw [e, lexS_app, lexS_app, wfin_b, hp, ih]
    simp
theorem Lx.brk {l : List Nat} {ts : List (List Nat)} (h : Lx l ts) : Lx ([40] ++ l ++ [41]) ([[40]] ++ ts ++ [[41]]) := fun ws => by
  rw [lexS_app, lexS_app, wfin_c _ 40 (.inl rfl), wfin_c _ 41 (.inr rfl)]
  have e : TL.wfin (ws, []) = ws := rfl
  rw [e, h (ws ++ [[40]])]
  show (ws ++ [[40]] ++ ts ++ [[41]] : List (List Nat)) = _
  simp
/-! the text of a tree, its words and brackets -/
noncomputable def bk (l : List Str) : Str := ("(" : Str) ++ Txt.join " " l ++ (")" : Str)
noncomputable def pr1 (w a : Str) : Str := ("(" : Str) ++ w ++ (" " : Str) ++ a ++ (")" : Str)
noncomputable def Kd.sp : Kd → List Str → List Str
  | .do_ w, l => w :: l
  | .let_ w, l => "let" :: w :: l
  | .pick i, l => "pick" :: Ev.num i :: l
  | .mark i, l => "mark" :: Ev.num i :: l
  | .many, l => "many" :: l
  | .iff, l => "if" :: l
  | .parts, l => "parts" :: l
  | .loop w v, l => ["loop", w, l.getD 0 "", v, l.getD 1 "", l.getD 2 ""]
  | .rai w, _ => ["raise", w]
  | .try_ w, l => ["try", l.getD 0 "", w, l.getD 1 ""]
  | .call w, l => w :: l
  | .melt w ws, l => ["melt", w, bk (List.zipWith pr1 ws l), l.getD ws.length ""]
  | _, _ => []
mutual
noncomputable def Tr.sh : Tr → Str
  | .nd k xs => match k with
    | .num i => num i
    | .tru b => if b = true then "yes" else "no"
    | .nam w => w
    | k => bk (k.sp (Tr.shs xs))
noncomputable def Tr.shs : List Tr → List Str
  | [] => []
  | x :: xs => x.sh :: Tr.shs xs
end
theorem shs_map : ∀ xs : List Tr, Tr.shs xs = xs.map Tr.sh
  | [] => rfl
  | x :: xs => congrArg (x.sh :: ·) (shs_map xs)
theorem shs_len (xs : List Tr) : (Tr.shs xs).length = xs.length := by rw [shs_map, List.length_map]
noncomputable def Kd.tp : Kd → List (List (List Nat)) → List (List Nat)
  | .do_ w, l => tl w :: l.flatten
  | .let_ w, l => tl "let" :: tl w :: l.flatten
  | .pick i, l => tl "pick" :: tl (Ev.num i) :: l.flatten
  | .mark i, l => tl "mark" :: tl (Ev.num i) :: l.flatten
  | .many, l => tl "many" :: l.flatten
  | .iff, l => tl "if" :: l.flatten
  | .parts, l => tl "parts" :: l.flatten
  | .loop w v, l => tl "loop" :: tl w :: (l.getD 0 [] ++ tl v :: (l.getD 1 [] ++ l.getD 2 []))
  | .rai w, _ => [tl "raise", tl w]
  | .try_ w, l => tl "try" :: (l.getD 0 [] ++ tl w :: l.getD 1 [])
  | .call w, l => tl w :: l.flatten
  | .melt w ws, l => tl "melt" :: tl w :: [40] :: ((List.zipWith (fun w a => [40] :: tl w :: (a ++ [[41]])) ws l).flatten ++ [41] :: l.getD ws.length [])
  | _, _ => []
mutual
noncomputable def Tr.tkn : Tr → List (List Nat)
  | .nd k xs => match k with
    | .num i => [tl (num i)]
    | .tru b => [tl (if b = true then "yes" else "no")]
    | .nam w => [tl w]
    | k => [40] :: (k.tp (Tr.tkns xs) ++ [[41]])
noncomputable def Tr.tkns : List Tr → List (List (List Nat))
  | [] => []
  | x :: xs => x.tkn :: Tr.tkns xs
end
theorem tkns_map : ∀ xs : List Tr, Tr.tkns xs = xs.map Tr.tkn
  | [] => rfl
  | x :: xs => congrArg (x.tkn :: ·) (tkns_map xs)
theorem tl_bk (l : List Str) : tl (bk l) = [40] ++ TL.joinL [32] (l.map tl) ++ [41] := by
  have e1 : tl ("(" : Str) = [40] := by decide +kernel
  have e3 : tl (")" : Str) = [41] := by decide +kernel
  have e2 : tl (" " : Str) = [32] := by decide +kernel
  have e : tl (Txt.join " " l) = TL.joinL (tl (" " : Str)) (l.map tl) := by
    rw [TL.join_eq]
    exact TL.tl_join _ _
  unfold bk
  rw [tl_app, tl_app, e1, e3, e, e2]
/-- words that stand by themselves -/
noncomputable def Wc (w : List Nat) : Prop := w ≠ [] ∧ ∀ c ∈ w, Unicode.isSpace c = false ∧ c ≠ 40 ∧ c ≠ 41
theorem wc_range {w : List Nat} (h0 : w ≠ []) (h : ∀ c ∈ w, (97 ≤ c ∧ c ≤ 122) ∨ (48 ≤ c ∧ c ≤ 57)) : Wc w := by
  refine ⟨h0, fun c hc => ?_⟩
  have key : ∀ c : Nat, c < 128 → ((97 ≤ c ∧ c ≤ 122) ∨ (48 ≤ c ∧ c ≤ 57)) → Unicode.isSpace c = false := by decide +kernel
  have h := h c hc
  exact ⟨key c (by omega) h, by omega, by omega⟩
theorem wc_word {w : Str} (h : wordB w = true) : Wc (tl w) := by
  unfold wordB at h
  simp only [Bool.and_eq_true, decide_eq_true_eq] at h
  obtain ⟨⟨_, ⟨h1, _⟩, h3⟩, _⟩ := h
  obtain ⟨b, hb, hd, _⟩ := rdrop_spec isFi (tl w)
  have hb : tl w = wS w ++ b := hb
  have h3 := List.all_eq_true.mp h3
  refine wc_range (fun e => ?_) fun c hc => ?_
  · rw [e] at hb
    have : wS w = [] := (List.append_eq_nil_iff.mp hb.symm).1
    rw [this] at h1
    simp at h1
  · rw [hb] at hc
    rcases List.mem_append.mp hc with hc | hc
    · have := h3 c hc
      rw [isLe_iff] at this
      exact .inl (of_decide_eq_true this)
    · have := hd c hc
      rw [isFi_iff] at this
      exact .inr (of_decide_eq_true this)
theorem num_ne0 {i : Int} (h : 0 ≤ i) : tl (num i) ≠ [] := by
  obtain ⟨a, rfl⟩ := Int.eq_ofNat_of_zero_le h
  unfold num
  rw [tl_num]
  intro e
  have h1 := congrArg List.length e
  rw [List.length_map] at h1
  have := @Nat.length_toDigits_pos 10 a
  simp at h1
theorem wc_num {i : Int} (h : 0 ≤ i) : Wc (tl (num i)) := wc_range (num_ne0 h) fun c hc => .inr (num_d h c hc)
theorem wc_kw : ∀ s ∈ (["let", "pick", "mark", "many", "if", "parts", "loop", "raise", "try", "melt", "yes", "no"] : List Str), tl s ≠ [] ∧ ∀ c ∈ tl s, Unicode.isSpace c = false ∧ c ≠ 40 ∧ c ≠ 41 := by decide +kernel
theorem wc_sg : ∀ s ∈ SG, tl s ≠ [] ∧ ∀ c ∈ tl s, Unicode.isSpace c = false ∧ c ≠ 40 ∧ c ≠ 41 := by decide +kernel
theorem Lx.w {w : List Nat} (h : Wc w) : Lx w [w] := Lx.word h.1 h.2
theorem Lx.bk {l : List Str} {ts : List (List (List Nat))} (hl : ts.length = l.length) (h : ∀ (i : Nat) (hi : i < l.length), Lx (tl l[i]) (ts[i]'(by omega))) : Lx (tl (Ev.bk l)) ([40] :: (ts.flatten ++ [[41]])) := by
  rw [tl_bk]
  have e1 : ((l.map tl).zip ts).map (·.1) = l.map tl := by
    rw [List.map_fst_zip]
    rw [List.length_map]; omega
  have e2 : ((l.map tl).zip ts).map (·.2) = ts := by
    rw [List.map_snd_zip]
    rw [List.length_map]; omega
  have j := Lx.join (ps := (l.map tl).zip ts) fun p hp => by
    obtain ⟨i, hi, e⟩ := List.getElem_of_mem hp
    rw [List.length_zip, List.length_map] at hi
    rw [List.getElem_zip] at e
    rw [← e]
    dsimp only
    rw [List.getElem_map]
    exact h i (by omega)
  rw [e1, e2] at j
  have b := j.brk
  have : ([[40]] ++ ts.flatten ++ [[41]] : List (List Nat)) = [40] :: (ts.flatten ++ [[41]]) := by simp
  rw [this] at b
  exact b
theorem Lx.pr {w a : Str} {t : List (List Nat)} (hw : Wc (tl w)) (ha : Lx (tl a) t) : Lx (tl (pr1 w a)) ([40] :: tl w :: (t ++ [[41]])) := by
  have e1 : tl ("(" : Str) = [40] := by decide +kernel
  have e3 : tl (")" : Str) = [41] := by decide +kernel
  have e2 : tl (" " : Str) = [32] := by decide +kernel
  have j := Lx.join (ps := [(tl w, [tl w]), (tl a, t)]) fun p hp => by
    rcases List.mem_cons.mp hp with rfl | hp
    · exact Lx.w hw
    · rw [List.mem_singleton.mp hp]; exact ha
  have b := j.brk
  have el : tl (pr1 w a) = [40] ++ TL.joinL [32] ([(tl w, [tl w]), (tl a, t)].map (·.1)) ++ [41] := by
    unfold pr1
    rw [tl_app, tl_app, tl_app, tl_app, e1, e2, e3]
    simp [TL.joinL]
  rw [el]
  have : ([[40]] ++ ([(tl w, [tl w]), (tl a, t)].map (·.2)).flatten ++ [[41]] : List (List Nat)) = [40] :: tl w :: (t ++ [[41]]) := by simp
  rw [this] at b
  exact b
/-! a tree's text is its words and brackets -/
noncomputable def LxL : List Str → List (List (List Nat)) → Prop
  | [], [] => True
  | a :: l, t :: ts => Lx (tl a) t ∧ LxL l ts
  | _, _ => False
theorem lxl_len : ∀ {l : List Str} {ts : List (List (List Nat))}, LxL l ts → ts.length = l.length
  | [], [], _ => rfl
  | _ :: _, _ :: _, h => congrArg (· + 1) (lxl_len h.2)
  | [], _ :: _, h => h.elim
  | _ :: _, [], h => h.elim
theorem lxl_at : ∀ {l : List Str} {ts : List (List (List Nat))}, LxL l ts → ∀ (i : Nat) (hi : i < l.length) (h2 : i < ts.length), Lx (tl l[i]) ts[i]
  | _ :: _, _ :: _, h, 0, _, _ => h.1
  | _ :: _, _ :: _, h, i + 1, h1, h2 => lxl_at h.2 i (by simpa using h1) (by simpa using h2)
theorem Lx.bkl {l : List Str} {ts : List (List (List Nat))} (h : LxL l ts) : Lx (tl (Ev.bk l)) ([40] :: (ts.flatten ++ [[41]])) := Lx.bk (lxl_len h) fun i hi => lxl_at h i hi (by rw [lxl_len h]; exact hi)
theorem kwLx {s : Str} (h : s ∈ (["let", "pick", "mark", "many", "if", "parts", "loop", "raise", "try", "melt", "yes", "no"] : List Str)) : Lx (tl s) [tl s] := Lx.w (wc_kw s h)
theorem lxl_pairs : ∀ {ws : List Str} {l : List Str} {ts : List (List (List Nat))}, (∀ w ∈ ws, wordB w = true) → LxL l ts → LxL (List.zipWith pr1 ws l) (List.zipWith (fun w a => [40] :: tl w :: (a ++ [[41]])) ws ts)
  | [], l, ts, _, _ => by simp [LxL]
  | _ :: _, [], [], _, _ => by simp [LxL]
  | w :: ws, a :: l, t :: ts, hw, h => by
    rw [List.zipWith_cons_cons, List.zipWith_cons_cons]
    exact ⟨Lx.pr (wc_word (hw w (List.mem_cons_self ..))) h.1, lxl_pairs (fun v hv => hw v (List.mem_cons_of_mem _ hv)) h.2⟩
  | _ :: _, [], _ :: _, _, h => h.elim
  | _ :: _, _ :: _, [], _, h => h.elim
theorem lxl_get : ∀ {l : List Str} {ts : List (List (List Nat))} (i : Nat), LxL l ts → i < l.length → Lx (tl (l.getD i "")) (ts.getD i [])
  | a :: l, t :: ts, 0, h, _ => h.1
  | a :: l, t :: ts, i + 1, h, hi => by
    have := lxl_get i h.2 (by simpa using hi)
    simpa using this
  | [], [], i, _, hi => by simp at hi
  | [], _ :: _, _, h, _ => h.elim
  | _ :: _, [], _, h, _ => h.elim
mutual
theorem tree_lx : ∀ t : Tr, t.ok → t.wk → t.tk → Lx (tl t.sh) t.tkn
  | .nd k xs, ho, hw, ht => by
    have ih := trees_lx xs ho.2 hw.2 ht.2
    have ha : k.ar xs.length := ho.1
    have hk : k.wk := hw.1
    have htk : k.tk xs.length := ht.1
    have ln := shs_len xs
    have one : ∀ {s : Str}, s ∈ (["let", "pick", "mark", "many", "if", "parts", "loop", "raise", "try", "melt", "yes", "no"] : List Str) → Lx (tl s) [tl s] := fun h => kwLx h
    cases k with
    | num i => exact Lx.w (wc_num hk.1)
    | tru b =>
      cases b with
      | true => exact one (s := "yes") (by simp)
      | false => exact one (s := "no") (by simp)
    | nam w => exact Lx.w (wc_word htk)
    | rai w => exact Lx.bkl (l := ["raise", w]) (ts := [[tl "raise"], [tl w]]) ⟨one (by simp), Lx.w (wc_word htk), trivial⟩
    | do_ w => exact Lx.bkl (l := w :: Tr.shs xs) (ts := [tl w] :: Tr.tkns xs) ⟨Lx.w (wc_sg w htk), ih⟩
    | let_ w => exact Lx.bkl (l := "let" :: w :: Tr.shs xs) (ts := [tl "let"] :: [tl w] :: Tr.tkns xs) ⟨one (by simp), Lx.w (wc_word htk), ih⟩
    | pick i => exact Lx.bkl (l := "pick" :: Ev.num i :: Tr.shs xs) (ts := [tl "pick"] :: [tl (Ev.num i)] :: Tr.tkns xs) ⟨one (by simp), Lx.w (wc_num hk.1), ih⟩
    | mark i => exact Lx.bkl (l := "mark" :: Ev.num i :: Tr.shs xs) (ts := [tl "mark"] :: [tl (Ev.num i)] :: Tr.tkns xs) ⟨one (by simp), Lx.w (wc_num hk.1), ih⟩
    | many => exact Lx.bkl (l := "many" :: Tr.shs xs) (ts := [tl "many"] :: Tr.tkns xs) ⟨one (by simp), ih⟩
    | iff => exact Lx.bkl (l := "if" :: Tr.shs xs) (ts := [tl "if"] :: Tr.tkns xs) ⟨one (by simp), ih⟩
    | parts => exact Lx.bkl (l := "parts" :: Tr.shs xs) (ts := [tl "parts"] :: Tr.tkns xs) ⟨one (by simp), ih⟩
    | call w => exact Lx.bkl (l := w :: Tr.shs xs) (ts := [tl w] :: Tr.tkns xs) ⟨Lx.w (wc_word htk.1), ih⟩
    | try_ w =>
      have h2 : xs.length = 2 := ha
      have := Lx.bkl (l := ["try", (Tr.shs xs).getD 0 "", w, (Tr.shs xs).getD 1 ""]) (ts := [[tl "try"], (Tr.tkns xs).getD 0 [], [tl w], (Tr.tkns xs).getD 1 []]) ⟨one (by simp), lxl_get 0 ih (by omega), Lx.w (wc_word htk), lxl_get 1 ih (by omega), trivial⟩
      have e : ([[tl "try"], (Tr.tkns xs).getD 0 [], [tl w], (Tr.tkns xs).getD 1 []] : List (List (List Nat))).flatten = (Kd.try_ w).tp (Tr.tkns xs) := by simp [Kd.tp]
      rw [e] at this
      exact this
    | loop w v =>
      have h3 : xs.length = 3 := ha
      have := Lx.bkl (l := ["loop", w, (Tr.shs xs).getD 0 "", v, (Tr.shs xs).getD 1 "", (Tr.shs xs).getD 2 ""]) (ts := [[tl "loop"], [tl w], (Tr.tkns xs).getD 0 [], [tl v], (Tr.tkns xs).getD 1 [], (Tr.tkns xs).getD 2 []]) ⟨one (by simp), Lx.w (wc_word htk.1), lxl_get 0 ih (by omega), Lx.w (wc_word htk.2.1), lxl_get 1 ih (by omega), lxl_get 2 ih (by omega), trivial⟩
      have e : ([[tl "loop"], [tl w], (Tr.tkns xs).getD 0 [], [tl v], (Tr.tkns xs).getD 1 [], (Tr.tkns xs).getD 2 []] : List (List (List Nat))).flatten = (Kd.loop w v).tp (Tr.tkns xs) := by simp [Kd.tp]
      rw [e] at this
      exact this
    | melt w ws =>
      obtain ⟨h1, _⟩ : xs.length = ws.length + 1 ∧ ws.length ≤ 1000 := ha
      have pb := Lx.bkl (lxl_pairs htk.2.1 ih)
      have := Lx.bkl (l := ["melt", w, bk (List.zipWith pr1 ws (Tr.shs xs)), (Tr.shs xs).getD ws.length ""]) (ts := [[tl "melt"], [tl w], [40] :: ((List.zipWith (fun w a => [40] :: tl w :: (a ++ [[41]])) ws (Tr.tkns xs)).flatten ++ [[41]]), (Tr.tkns xs).getD ws.length []]) ⟨one (by simp), Lx.w (wc_word htk.1), pb, lxl_get ws.length ih (by omega), trivial⟩
      have e : ([[tl "melt"], [tl w], [40] :: ((List.zipWith (fun w a => [40] :: tl w :: (a ++ [[41]])) ws (Tr.tkns xs)).flatten ++ [[41]]), (Tr.tkns xs).getD ws.length []] : List (List (List Nat))).flatten = (Kd.melt w ws).tp (Tr.tkns xs) := by simp [Kd.tp]
      rw [e] at this
      exact this
theorem trees_lx : ∀ xs : List Tr, Tr.oks xs → Tr.wks xs → Tr.tks xs → LxL (Tr.shs xs) (Tr.tkns xs)
  | [], _, _, _ => trivial
  | x :: xs, ho, hw, ht => ⟨tree_lx x ho.1 hw.1 ht.1, trees_lx xs ho.2 hw.2 ht.2⟩
end
/-- the words of a tree's text -/
theorem wds_tree (t : Tr) (ho : t.ok) (hw : t.wk) (ht : t.tk) : (Txt.words (Txt.replace (Txt.replace t.sh "(" " ( ") ")" " ) ")).map tl = t.tkn := by
  rw [wds_lex, tree_lx t ho hw ht []]
  rfl
/-! how long a text is -/
noncomputable def lsm (l : List Str) : Nat := (l.map fun a => a.length + 1).sum
theorem joinL_len : ∀ l : List (List Nat), (TL.joinL [32] l).length ≤ (l.map fun a => a.length + 1).sum
  | [] => Nat.le_refl _
  | [a] => by simp [TL.joinL]
  | a :: b :: l => by
    have ih := joinL_len (b :: l)
    have e : TL.joinL [32] (a :: b :: l) = a ++ ([32] ++ TL.joinL [32] (b :: l)) := by simp [TL.joinL]
    rw [e, List.length_append, List.length_append, List.map_cons, List.sum_cons]
    show a.length + (1 + _) ≤ _
    omega
theorem bk_len (l : List Str) : (bk l).length ≤ lsm l + 2 := by
  rw [tl_len, tl_bk, List.length_append, List.length_append]
  have h := joinL_len (l.map tl)
  have e : ((l.map tl).map fun a => a.length + 1).sum = lsm l := by
    unfold lsm
    rw [List.map_map]
    congr 1
  rw [e] at h
  show 1 + _ + 1 ≤ _
  omega
theorem lsm_c (a : Str) (l : List Str) : lsm (a :: l) = a.length + 1 + lsm l := by unfold lsm; rw [List.map_cons, List.sum_cons]
theorem lsm_n : lsm [] = 0 := rfl
theorem pr1_len (w a : Str) : (pr1 w a).length = w.length + a.length + 3 := by
  have e1 : ("(" : Str).length = 1 := by decide +kernel
  have e2 : (" " : Str).length = 1 := by decide +kernel
  have e3 : (")" : Str).length = 1 := by decide +kernel
  unfold pr1
  rw [len_app, len_app, len_app, len_app, e1, e2, e3]
  omega
theorem kwl : ("raise" : Str).length = 5 ∧ ("let" : Str).length = 3 ∧ ("pick" : Str).length = 4 ∧ ("mark" : Str).length = 4 ∧ ("many" : Str).length = 4 ∧ ("if" : Str).length = 2 ∧ ("parts" : Str).length = 5 ∧ ("loop" : Str).length = 4 ∧ ("try" : Str).length = 3 ∧ ("melt" : Str).length = 4 ∧ ("yes" : Str).length = 3 ∧ ("no" : Str).length = 2 ∧ ("" : Str).length = 0 := by decide +kernel
theorem num_10 {i : Int} (h : 0 ≤ i ∧ i ≤ 1000000000) : (num i).length ≤ 10 := num_l h.1 (by omega)
theorem zip_lsm : ∀ (ws : List Str) (l : List Str), (∀ w ∈ ws, w.length ≤ 12) → lsm (List.zipWith pr1 ws l) + (l.drop ws.length |> lsm) ≤ lsm l + 15 * ws.length
  | [], l, _ => by simp [lsm_n]
  | _ :: _, [], _ => by simp [lsm_n]
  | w :: ws, a :: l, h => by
    have ih := zip_lsm ws l fun v hv => h v (List.mem_cons_of_mem _ hv)
    have hw := h w (List.mem_cons_self ..)
    rw [List.zipWith_cons_cons, lsm_c, lsm_c, pr1_len, List.length_cons, List.drop_succ_cons]
    omega
theorem getD_lsm : ∀ (l : List Str) (i : Nat), (l.getD i "").length ≤ lsm (l.drop i)
  | [], i => by
    have e : (([] : List Str).getD i "") = "" := by simp
    rw [e, kwl.2.2.2.2.2.2.2.2.2.2.2.2]
    exact Nat.zero_le _
  | a :: l, 0 => by
    show a.length ≤ lsm (a :: l)
    rw [lsm_c]; omega
  | a :: l, i + 1 => by
    have := getD_lsm l i
    simpa using this
mutual
theorem sh_len : ∀ t : Tr, t.ok → t.wk → t.sh.length + 20 ≤ 80 * t.sz
  | .nd k xs, ho, hw => by
    have ih := shs_lsm xs ho.2 hw.2
    have ha : k.ar xs.length := ho.1
    have hk : k.wk := hw.1
    have ln := shs_len xs
    obtain ⟨k1, k2, k3, k4, k5, k6, k7, k8, k9, k10, k11, k12, k13⟩ := kwl
    have sz : (Tr.nd k xs).sz = Tr.szs xs + 1 := rfl
    have brk : ∀ l : List Str, lsm l ≤ 80 * Tr.szs xs + 50 → (bk l).length + 20 ≤ 80 * (Tr.nd k xs).sz := fun l h => by have := bk_len l; omega
    obtain ⟨l, hl⟩ : ∃ l, l = Tr.shs xs := ⟨_, rfl⟩
    rw [← hl] at ih ln
    cases k with
    | num i =>
      have := num_10 (i := i) hk
      show (Ev.num i).length + 20 ≤ _
      omega
    | tru b =>
      cases b with
      | true => show ("yes" : Str).length + 20 ≤ _; omega
      | false => show ("no" : Str).length + 20 ≤ _; omega
    | nam w =>
      have : w.length ≤ 12 := hk.2
      show w.length + 20 ≤ _
      omega
    | rai w =>
      have : w.length ≤ 12 := hk.2
      exact brk ["raise", w] (by rw [lsm_c, lsm_c, lsm_n]; omega)
    | do_ w =>
      have : w.length ≤ 12 := hk.2
      exact brk (w :: Tr.shs xs) (by rw [lsm_c, ← hl]; omega)
    | let_ w =>
      have : w.length ≤ 12 := hk.2
      exact brk ("let" :: w :: Tr.shs xs) (by rw [lsm_c, lsm_c, ← hl]; omega)
    | pick i =>
      have := num_10 (i := i) hk
      exact brk ("pick" :: Ev.num i :: Tr.shs xs) (by rw [lsm_c, lsm_c, ← hl]; omega)
    | mark i =>
      have := num_10 (i := i) hk
      exact brk ("mark" :: Ev.num i :: Tr.shs xs) (by rw [lsm_c, lsm_c, ← hl]; omega)
    | many => exact brk ("many" :: Tr.shs xs) (by rw [lsm_c, ← hl]; omega)
    | iff => exact brk ("if" :: Tr.shs xs) (by rw [lsm_c, ← hl]; omega)
    | parts => exact brk ("parts" :: Tr.shs xs) (by rw [lsm_c, ← hl]; omega)
    | call w =>
      have : w.length ≤ 12 := hk.2
      exact brk (w :: Tr.shs xs) (by rw [lsm_c, ← hl]; omega)
    | try_ w =>
      have : w.length ≤ 12 := hk.2
      obtain ⟨a, b, e⟩ := len2 (xs := l) (by rw [ln]; exact ha)
      have h2 := ih
      rw [e, lsm_c, lsm_c, lsm_n] at h2
      exact brk ["try", (Tr.shs xs).getD 0 "", w, (Tr.shs xs).getD 1 ""] (by
        rw [← hl, e]
        show lsm ["try", a, w, b] ≤ _
        rw [lsm_c, lsm_c, lsm_c, lsm_c, lsm_n]; omega)
    | loop w v =>
      have w1 : w.length ≤ 12 := hk.1.2
      have w2 : v.length ≤ 12 := hk.2.2
      obtain ⟨a, b, c, e⟩ := len3 (xs := l) (by rw [ln]; exact ha)
      have h2 := ih
      rw [e, lsm_c, lsm_c, lsm_c, lsm_n] at h2
      exact brk ["loop", w, (Tr.shs xs).getD 0 "", v, (Tr.shs xs).getD 1 "", (Tr.shs xs).getD 2 ""] (by
        rw [← hl, e]
        show lsm ["loop", w, a, v, b, c] ≤ _
        rw [lsm_c, lsm_c, lsm_c, lsm_c, lsm_c, lsm_c, lsm_n]; omega)
    | melt w ws =>
      have w1 : w.length ≤ 12 := hk.1.2
      obtain ⟨h1, _⟩ : xs.length = ws.length + 1 ∧ ws.length ≤ 1000 := ha
      have z := zip_lsm ws l fun v hv => (hk.2 v hv).2
      have g := getD_lsm l ws.length
      have b := bk_len (List.zipWith pr1 ws l)
      exact brk ["melt", w, bk (List.zipWith pr1 ws (Tr.shs xs)), (Tr.shs xs).getD ws.length ""] (by
        rw [← hl, lsm_c, lsm_c, lsm_c, lsm_c, lsm_n]; omega)
theorem shs_lsm : ∀ xs : List Tr, Tr.oks xs → Tr.wks xs → lsm (Tr.shs xs) + 19 * xs.length ≤ 80 * Tr.szs xs
  | [], _, _ => Nat.le_refl _
  | x :: xs, ho, hw => by
    have h1 := sh_len x ho.1 hw.1
    have h2 := shs_lsm xs ho.2 hw.2
    show lsm (x.sh :: Tr.shs xs) + 19 * (xs.length + 1) ≤ 80 * (x.sz + Tr.szs xs)
    rw [lsm_c]
    omega
end
/-! show_tree -/
theorem shown_list (N : Nat) (fn : Str) (F : List M → CR) (xs : List Tr) (hl : xs.length ≤ 1000) (h : ∀ x ∈ xs, F [.d x.d] = .ok (.d (.str x.sh)) [some (.d x.d)]) (fi : FI) (S : SS) (i : Nat) (a0 a1 : Option M)
    (hfi : fi [a0, a1, none, none, none] = .ok (Tr.ds xs) [a0, a1, none, none, none]) :
    mLc [4] fi (gN 4) tTrue (eM (mCall F (aCons (eN 4) aNil))) [a0, a1, none, none, none] = .ok (.lst ((Tr.shs xs).map .str)) [a0, a1, none, none, none] := by
  have e2 := mLc_ts (own := [4]) (fi := fi) (g := gN 4) (fe := eM (mCall F (aCons (eN 4) aNil))) (S := [a0, a1, none, none, none]) (S1 := [a0, a1, none, none, none]) (ts := xs) Tr.d (fun x => .str x.sh) (by rw [hfi, ds_map]) (by
    intro x hx
    have := h x hx
    refine ⟨[a0, a1, none, none, some (.d x.d)], rfl, ?_⟩
    simp -dsimp [this, wipeS]) (by show _ ≤ 16777216; omega)
  rw [e2, shs_map, List.map_map]
  rfl
theorem pr_js (w a : Str) : ((((Str.empty ++ ("(" : Str)) ++ w) ++ (" " : Str)) ++ a) ++ (")" : Str) = pr1 w a := by
  have e : tl Str.empty = [] := by decide +kernel
  apply tl_ext
  unfold pr1
  rw [tl_app, tl_app, tl_app, tl_app, tl_app, tl_app, tl_app, tl_app, tl_app, e, List.nil_append]
theorem joinD_sp (l : List Str) (h : lsm l ≤ 1000000) : joinD " " (.lst (l.map .str)) = some (.str (Txt.join " " l)) := by
  unfold joinD
  dsimp only
  rw [asStrs_map]
  dsimp only
  have e1 : (" " : Str).length = 1 := by decide +kernel
  have e2 : ∀ l : List Str, (l.map (·.length)).sum + l.length * 1 = lsm l := by
    intro l
    induction l with
    | nil => rfl
    | cons a l ih => rw [List.map_cons, List.sum_cons, lsm_c, List.length_cons, ← ih]; omega
  rw [e1, e2, if_pos (by omega)]
theorem lsm_ge (l : List Str) : ∀ a ∈ l, a.length + 1 ≤ lsm l := by
  induction l with
  | nil => intro a h; cases h
  | cons b l ih =>
    intro a h
    rw [lsm_c]
    rcases List.mem_cons.mp h with rfl | h
    · omega
    · have := ih a h; omega
/-- shown_parts, the trees within shown -/
theorem parts_shown (N : Nat) (k : Kd) (xs : List Tr) (ho : (Tr.nd k xs).ok) (hw : (Tr.nd k xs).wk) (hs : (Tr.nd k xs).sz ≤ 1000) (hk : k.bare = false) (h : ∀ x ∈ xs, den N "show_tree" [.d x.d] = .ok (.d (.str x.sh)) [some (.d x.d)]) :
    den (N + 1) "shown_parts" [.d (Tr.nd k xs).d] = .ok (.lst ((k.sp (Tr.shs xs)).map .str)) [some (.d (Tr.nd k xs).d)] := by
  have ha : k.ar xs.length := ho.1
  have hwk : k.wk := hw.1
  have szs : Tr.szs xs + 1 ≤ 1000 := hs
  have xl : xs.length ≤ 1000 := by have := len_szs xs; omega
  have ln := shs_len xs
  have sl : ((Tr.shs xs).map D.str).length ≤ 1000 := by rw [List.length_map, ln]; exact xl
  refine eq_of_wp ?_
  rw [den_shown_parts]
  refine run_wp rfl ?_
  unfold b_shown_parts
  have e0 : ixD (Tr.nd k xs).d (.int 0) = some (.d (.str k.nm)) := mk_0 k (Tr.ds xs)
  cases k with
  | num i => exact absurd hk Bool.noConfusion
  | tru b => exact absurd hk Bool.noConfusion
  | nam w => exact absurd hk Bool.noConfusion
  | rai w =>
    show R.wp _ _
    have e : (Tr.nd (.rai w) xs).d = .tup [.str "raise", .str w] := rfl
    rw [e]
    simp -dsimp [List.replicate, inD_t2]
    first | done | rfl
  | do_ w =>
    obtain ⟨a, b, rfl⟩ := len2 ha
    have h1 := h a (by simp)
    have h2 := h b (by simp)
    have e : (Tr.nd (.do_ w) [a, b]).d = .tup [.str "do", .str w, a.d, b.d] := rfl
    rw [e]
    simp -dsimp [List.replicate, inD_t2, h1, h2]
    first | done | rfl
  | let_ w =>
    obtain ⟨a, b, rfl⟩ := len2 ha
    have h1 := h a (by simp)
    have h2 := h b (by simp)
    have e : (Tr.nd (.let_ w) [a, b]).d = .tup [.str "let", .str w, a.d, b.d] := rfl
    rw [e]
    simp -dsimp [List.replicate, inD_t2, h1, h2]
    first | done | rfl
  | try_ w =>
    obtain ⟨a, b, rfl⟩ := len2 ha
    have h1 := h a (by simp)
    have h2 := h b (by simp)
    have e : (Tr.nd (.try_ w) [a, b]).d = .tup [.str "try", a.d, .str w, b.d] := rfl
    rw [e]
    simp -dsimp [List.replicate, inD_t2, h1, h2]
    first | done | rfl
  | loop w v =>
    obtain ⟨a, b, c, rfl⟩ := len3 ha
    have h1 := h a (by simp)
    have h2 := h b (by simp)
    have h3 := h c (by simp)
    have e : (Tr.nd (.loop w v) [a, b, c]).d = .tup [.str "loop", .str w, a.d, .str v, b.d, c.d] := rfl
    rw [e]
    simp -dsimp [List.replicate, inD_t2, h1, h2, h3]
    first | done | rfl
  | pick i =>
    obtain ⟨a, rfl⟩ := len1 ha
    have h1 := h a (by simp)
    have hi : 0 ≤ i ∧ i ≤ 1000000000 := hwk
    have e : (Tr.nd (.pick i) [a]).d = .tup [.str "pick", .int i, a.d] := rfl
    rw [e]
    simp -dsimp [List.replicate, inD_t2, h1, show -18446744073709551616 < i ∧ i < 18446744073709551616 by omega]
    first | done | rfl
  | mark i =>
    obtain ⟨a, rfl⟩ := len1 ha
    have h1 := h a (by simp)
    have hi : 0 ≤ i ∧ i ≤ 1000000000 := hwk
    have e : (Tr.nd (.mark i) [a]).d = .tup [.str "mark", .int i, a.d] := rfl
    rw [e]
    simp -dsimp [List.replicate, inD_t2, h1, show -18446744073709551616 < i ∧ i < 18446744073709551616 by omega]
    first | done | rfl
  | many =>
    obtain ⟨a, rfl⟩ := len1 ha
    have h1 := h a (by simp)
    have e : (Tr.nd .many [a]).d = .tup [.str "many", a.d] := rfl
    rw [e]
    have c1 : cutD [.str "many", a.d] (some 1) none = [a.d] := rfl
    have lc := shown_list N "show_tree" (den N "show_tree") [a] (by simp) h (iSeq (eM (mSl (eN 0) (pIx (eC (.int 1))) pNo))) [] 0 (some (.d (.tup [.str "many", a.d]))) (some (.d (.str "many"))) (by
      simp -dsimp [c1]; rfl)
    rw [show (Tr.shs [a]).map D.str = [.str a.sh] from rfl] at lc
    simp -dsimp [List.replicate, inD_t2, lc]
    first | done | rfl
  | iff =>
    obtain ⟨a, b, c, rfl⟩ := len3 ha
    have e : (Tr.nd .iff [a, b, c]).d = .tup [.str "if", a.d, b.d, c.d] := rfl
    rw [e]
    have c1 : cutD [.str "if", a.d, b.d, c.d] (some 1) none = [a.d, b.d, c.d] := rfl
    have lc := shown_list N "show_tree" (den N "show_tree") [a, b, c] (by simp) h (iSeq (eM (mSl (eN 0) (pIx (eC (.int 1))) pNo))) [] 0 (some (.d (.tup [.str "if", a.d, b.d, c.d]))) (some (.d (.str "if"))) (by
      simp -dsimp [c1]; rfl)
    rw [show (Tr.shs [a, b, c]).map D.str = [.str a.sh, .str b.sh, .str c.sh] from rfl] at lc
    simp -dsimp [List.replicate, inD_t2, lc]
    first | done | rfl
  | parts =>
    have e : (Tr.nd .parts xs).d = .tup [.str "parts", .tup (Tr.ds xs)] := rfl
    rw [e]
    have lc := shown_list N "show_tree" (den N "show_tree") xs xl h (iSeq (eM (mBin ixD (eN 0) (eC (.int 1))))) [] 0 (some (.d (.tup [.str "parts", .tup (Tr.ds xs)]))) (some (.d (.str "parts"))) (by
      simp -dsimp)
    simp -dsimp [List.replicate, inD_t2, lc, sl, show 1 + ((Tr.shs xs).map D.str).length ≤ 16777216 by omega, ln, show 1 + xs.length ≤ 16777216 by omega]
    first | done | rfl
  | call w =>
    have e : (Tr.nd (.call w) xs).d = .tup [.str "call", .str w, .tup (Tr.ds xs)] := rfl
    rw [e]
    have lc := shown_list N "show_tree" (den N "show_tree") xs xl h (iSeq (eM (mBin ixD (eN 0) (eC (.int 2))))) [] 0 (some (.d (.tup [.str "call", .str w, .tup (Tr.ds xs)]))) (some (.d (.str "call"))) (by
      simp -dsimp)
    simp -dsimp [List.replicate, inD_t2, lc, ln, show 1 + xs.length ≤ 16777216 by omega]
    first | done | rfl
  | melt w ws =>
    obtain ⟨h1, h2⟩ : xs.length = ws.length + 1 ∧ ws.length ≤ 1000 := ha
    obtain ⟨ys, l, rfl, hy⟩ := snoc_of h1
    have hl := h l (by simp)
    have sh := sh_len (.nd (.melt w ws) (ys ++ [l])) ho hw
    have lsm1 := shs_lsm (ys ++ [l]) ho.2 hw.2
    have zl := zip_lsm ws (Tr.shs (ys ++ [l])) fun v hv => (hwk.2 v hv).2
    have sz2 : 80 * Tr.szs (ys ++ [l]) ≤ 80000 := by omega
    have e : (Tr.nd (.melt w ws) (ys ++ [l])).d = .tup [.str "melt", .str w, .tup (prs ws (Tr.ds ys)), l.d] := by
      show (Kd.melt w ws).mk (Tr.ds (ys ++ [l])) = _
      rw [ds_app]
      exact mk_melt (by rw [ds_len]; exact hy)
    have eg : (Tr.shs (ys ++ [l])).getD ws.length "" = l.sh := by
      rw [shs_map, List.map_append, ← hy]
      simp
    have ez : List.zipWith pr1 ws (Tr.shs (ys ++ [l])) = (List.zip ws ys).map fun p => pr1 p.1 p.2.sh := by
      rw [shs_map, List.map_append]
      have : ∀ (ws : List Str) (ys : List Tr) (z : List Str), ys.length = ws.length → List.zipWith pr1 ws (ys.map Tr.sh ++ z) = (List.zip ws ys).map fun p => pr1 p.1 p.2.sh := by
        intro ws
        induction ws with
        | nil => intro ys z hh; simp
        | cons v ws ih =>
          intro ys z hh
          cases ys with
          | nil => simp at hh
          | cons y ys =>
            rw [List.map_cons, List.cons_append, List.zipWith_cons_cons, List.zip_cons_cons, List.map_cons, ih ys z (by simpa using hh)]
      exact this ws ys _ hy
    have ll : l.sh.length ≤ 1000000 := by
      have := lsm_ge (Tr.shs (ys ++ [l])) l.sh (by rw [shs_map]; simp)
      omega
    have bl := bk_len (List.zipWith pr1 ws (Tr.shs (ys ++ [l])))
    rw [e]
    obtain ⟨P, hP⟩ : ∃ P, P = prs ws (Tr.ds ys) := ⟨_, rfl⟩
    have lc : mLc [3, 4] (iSeq (eM (mBin ixD (eN 0) (eC (.int 2))))) (gT 2 (gsCons (gN 3) (gsCons (gN 4) gsNil))) tTrue (eM (mJs [(mE (eC (.str "("))), (mFmt (eN 3)), (mE (eC (.str " "))), (mFmt (eM (mCall (den N "show_tree") (aCons (eN 4) aNil)))), (mE (eC (.str ")")))])) [some (.d (.tup [.str "melt", .str w, .tup P, l.d])), some (.d (.str "melt")), none, none, none] =
        .ok (.lst (((List.zip ws ys).map fun p => pr1 p.1 p.2.sh).map .str)) [some (.d (.tup [.str "melt", .str w, .tup P, l.d])), some (.d (.str "melt")), none, none, none] := by
      have e2 := mLc_ts (own := [3, 4]) (fi := iSeq (eM (mBin ixD (eN 0) (eC (.int 2))))) (g := gT 2 (gsCons (gN 3) (gsCons (gN 4) gsNil))) (fe := eM (mJs [(mE (eC (.str "("))), (mFmt (eN 3)), (mE (eC (.str " "))), (mFmt (eM (mCall (den N "show_tree") (aCons (eN 4) aNil)))), (mE (eC (.str ")")))])) (S := [some (.d (.tup [.str "melt", .str w, .tup P, l.d])), some (.d (.str "melt")), none, none, none]) (S1 := [some (.d (.tup [.str "melt", .str w, .tup P, l.d])), some (.d (.str "melt")), none, none, none]) (ts := List.zip ws ys) (fun p => .tup [.str p.1, p.2.d]) (fun p => .str (pr1 p.1 p.2.sh)) (by
        rw [← prs_zip, ← hP]
        simp -dsimp) (by
        intro p hp
        have hv := (hwk.2 p.1 (List.of_mem_zip hp).1).2
        have hy := h p.2 (List.mem_append_left _ (List.of_mem_zip hp).2)
        have hb := lsm_ge (Tr.shs (ys ++ [l])) p.2.sh (by rw [shs_map]; exact List.mem_map_of_mem (List.mem_append_left _ (List.of_mem_zip hp).2))
        have pj := pr_js p.1 p.2.sh
        refine ⟨[some (.d (.tup [.str "melt", .str w, .tup P, l.d])), some (.d (.str "melt")), none, some (.d (.str p.1)), some (.d p.2.d)], rfl, ?_⟩
        obtain ⟨v, hvv⟩ : ∃ v, v = p.1 := ⟨_, rfl⟩
        obtain ⟨a, haa⟩ : ∃ v, v = p.2.sh := ⟨_, rfl⟩
        obtain ⟨dd, hdd⟩ : ∃ v, v = p.2.d := ⟨_, rfl⟩
        rw [← haa] at hb
        rw [← hvv] at hv
        rw [← hvv, ← haa] at pj
        rw [← haa, ← hdd] at hy
        rw [← hvv, ← haa, ← hdd]
        have l0 : Str.empty.length = 0 := by decide +kernel
        have l1 : ("(" : Str).length = 1 := by decide +kernel
        have l2 : (" " : Str).length = 1 := by decide +kernel
        have l3 : (")" : Str).length = 1 := by decide +kernel
        simp -dsimp [hy, l0, l1, l2, l3, show v.length ≤ 16777216 by omega, show a.length ≤ 16777216 by omega, show 1 + v.length ≤ 16777216 by omega, show 1 + v.length + 1 ≤ 16777216 by omega, show 1 + v.length + 1 + a.length ≤ 16777216 by omega, show 1 + v.length + 1 + a.length + 1 ≤ 16777216 by omega, pj, show (pr1 v a).length ≤ 16777216 by rw [pr1_len]; omega, wipeS]) (by rw [List.length_zip, hy]; show _ ≤ 16777216; omega)
      rw [e2, List.map_map]
      rfl
    rw [← ez] at lc
    rw [← hP]
    have jn := joinD_sp (List.zipWith pr1 ws (Tr.shs (ys ++ [l]))) (by omega)
    have ek : (Kd.melt w ws).sp (Tr.shs (ys ++ [l])) = ([("melt" : Str), w, bk (List.zipWith pr1 ws (Tr.shs (ys ++ [l]))), l.sh] : List Str) := by
      show ([("melt" : Str), w, bk (List.zipWith pr1 ws (Tr.shs (ys ++ [l]))), (Tr.shs (ys ++ [l])).getD ws.length ""] : List Str) = _
      rw [eg]
    rw [ek]
    obtain ⟨Z, hZ⟩ : ∃ Z, Z = List.zipWith pr1 ws (Tr.shs (ys ++ [l])) := ⟨_, rfl⟩
    rw [← hZ] at lc jn zl bl ⊢
    obtain ⟨ZD, hZD⟩ : ∃ ZD, ZD = Z.map D.str := ⟨_, rfl⟩
    rw [← hZD] at lc jn
    have l1 : ("(" : Str).length = 1 := by decide +kernel
    have l3 : (")" : Str).length = 1 := by decide +kernel
    have lj : (Txt.join " " Z).length + 2 ≤ 1000000 := by
      have e : (bk Z).length = (Txt.join " " Z).length + 2 := by
        unfold bk
        rw [len_app, len_app, l1, l3]; omega
      omega
    simp -dsimp [List.replicate, inD_t2, lc, jn, hl, l1, l3, show 1 + (Txt.join " " Z).length ≤ 16777216 by omega, show 1 + (Txt.join " " Z).length + 1 ≤ 16777216 by omega]
    rfl
/-- show_tree -/
theorem show_eq : ∀ (c n : Nat) (t : Tr), t.ok → t.wk → t.dep ≤ c → t.sz ≤ 1000 → den (n + 2 * c) "show_tree" [.d t.d] = .ok (.d (.str t.sh)) [some (.d t.d)]
  | 0, n, .nd k xs, _, _, hd, _ => absurd (show Tr.deps xs + 1 ≤ 0 from hd) (by omega)
  | c + 1, n, .nd k xs, ho, hw, hd, hs => by
    have hds : Tr.deps xs ≤ c := Nat.le_of_succ_le_succ (show Tr.deps xs + 1 ≤ c + 1 from hd)
    have szs : Tr.szs xs + 1 ≤ 1000 := hs
    have ih : ∀ x ∈ xs, den (n + 2 * c) "show_tree" [.d x.d] = .ok (.d (.str x.sh)) [some (.d x.d)] := fun x hx => show_eq c n x (oks_mem ho.2 x hx) (wks_mem hw.2 x hx) (deps_mem hds x hx) (by
      obtain ⟨p, q, rfl⟩ := List.append_of_mem hx
      rw [szs_app] at szs
      have szs : Tr.szs p + (x.sz + Tr.szs q) + 1 ≤ 1000 := szs
      omega)
    have hwk : k.wk := hw.1
    have ha : k.ar xs.length := ho.1
    rw [show n + 2 * (c + 1) = n + 2 * c + 1 + 1 by omega]
    have e0 : ixD (Tr.nd k xs).d (.int 0) = some (.d (.str k.nm)) := mk_0 k (Tr.ds xs)
    refine eq_of_wp ?_
    rw [den_show_tree]
    refine run_wp rfl ?_
    unfold b_show_tree
    by_cases hb : k.bare = true
    · cases k with
      | num i =>
        have hi : 0 ≤ i ∧ i ≤ 1000000000 := hwk
        have e : (Tr.nd (.num i) xs).d = .tup [.str "number", .int i] := rfl
        have es : (Tr.nd (.num i) xs).sh = Ev.num i := rfl
        rw [e, es]
        simp -dsimp [List.replicate, inD_t2, show -18446744073709551616 < i ∧ i < 18446744073709551616 by omega]
      | tru b =>
        have e : (Tr.nd (.tru b) xs).d = .tup [.str "truth", .bl b] := rfl
        have es : (Tr.nd (.tru b) xs).sh = (if b = true then ("yes" : Str) else "no") := rfl
        rw [e, es]
        cases b <;> simp -dsimp [List.replicate, inD_t2]
      | nam w =>
        have e : (Tr.nd (.nam w) xs).d = .tup [.str "name", .str w] := rfl
        have es : (Tr.nd (.nam w) xs).sh = w := rfl
        rw [e, es]
        simp -dsimp [List.replicate, inD_t2]
      | _ => exact absurd hb Bool.noConfusion
    · have hb : k.bare = false := by simpa using hb
      have pe := parts_shown (n + 2 * c) k xs ho hw hs hb ih
      have sl := sh_len (.nd k xs) ho hw
      have es : (Tr.nd k xs).sh = bk (k.sp (Tr.shs xs)) := by
        cases k <;> first | rfl | exact absurd hb Bool.noConfusion
      have n1 : ¬ ("truth" : Str) = k.nm := by cases k <;> first | exact absurd hb Bool.noConfusion | simp [Kd.nm]
      have n2 : (k.nm == ("truth" : Str)) = false ∧ (("number" : Str) == k.nm) = false ∧ (("name" : Str) == k.nm) = false := by cases k <;> first | exact absurd hb Bool.noConfusion | simp [Kd.nm]
      obtain ⟨n2, n3, n4⟩ := n2
      rw [es] at sl ⊢
      obtain ⟨Z, hZ⟩ : ∃ Z, Z = k.sp (Tr.shs xs) := ⟨_, rfl⟩
      rw [← hZ] at pe sl ⊢
      have l1 : ("(" : Str).length = 1 := by decide +kernel
      have l3 : (")" : Str).length = 1 := by decide +kernel
      have lj : (Txt.join " " Z).length + 2 ≤ 1000000 := by
        have e : (bk Z).length = (Txt.join " " Z).length + 2 := by
          unfold bk
          rw [len_app, len_app, l1, l3]; omega
        have : (Tr.nd k xs).sz ≤ 1000 := hs
        omega
      have jlen : ∀ Z : List Str, lsm Z ≤ (Txt.join " " Z).length + 1 := by
        intro Z
        have e : tl (Txt.join " " Z) = TL.joinL [32] (Z.map tl) := by
          have e2 : tl (" " : Str) = [32] := by decide +kernel
          have : tl (Txt.join " " Z) = TL.joinL (tl (" " : Str)) (Z.map tl) := by rw [TL.join_eq]; exact TL.tl_join _ _
          rw [this, e2]
        rw [tl_len, e]
        have key : ∀ Z : List Str, lsm Z ≤ (TL.joinL [32] (Z.map tl)).length + 1 := by
          intro Z
          induction Z with
          | nil => exact Nat.zero_le _
          | cons a Z ih =>
            cases Z with
            | nil => rw [lsm_c, lsm_n, tl_len]; simp [TL.joinL]
            | cons b Z =>
              have e : TL.joinL [32] ((a :: b :: Z).map tl) = tl a ++ ([32] ++ TL.joinL [32] ((b :: Z).map tl)) := by simp [TL.joinL]
              rw [e, List.length_append, List.length_append, lsm_c, tl_len]
              show _ ≤ _ + (1 + _) + 1
              omega
        exact key Z
      have jn := joinD_sp Z (by have := jlen Z; omega)
      obtain ⟨ZD, hZD⟩ : ∃ ZD, ZD = Z.map D.str := ⟨_, rfl⟩
      rw [← hZD] at pe jn
      obtain ⟨td, htd⟩ : ∃ td, td = (Tr.nd k xs).d := ⟨_, rfl⟩
      obtain ⟨m, hm⟩ : ∃ m, m = k.nm := ⟨_, rfl⟩
      rw [← htd] at e0 pe ⊢
      rw [← hm] at e0 n2 n3 n4
      simp -dsimp [List.replicate, inD_t2, e0, n2, n3, n4, pe, jn, l1, l3, show 1 + (Txt.join " " Z).length ≤ 16777216 by omega, show 1 + (Txt.join " " Z).length + 1 ≤ 16777216 by omega]
      rfl
/-! the law's own showing -/
theorem lparts_eq (n : Nat) (k : Kd) (xs : List Tr) (ho : (Tr.nd k xs).ok) (hw : (Tr.nd k xs).wk) (hs : (Tr.nd k xs).sz ≤ 1000) (hk : k.bare = false) :
    den (n + 1) "_law_parts" [.d (Tr.nd k xs).d] = .ok (.lst (Tr.ds xs)) [some (.d (Tr.nd k xs).d)] := by
  have ha : k.ar xs.length := ho.1
  have szs : Tr.szs xs + 1 ≤ 1000 := hs
  have xl : xs.length ≤ 1000 := by have := len_szs xs; omega
  have ln := ds_len xs
  refine eq_of_wp ?_
  rw [den__law_parts]
  refine run_wp rfl ?_
  unfold b__law_parts
  cases k with
  | num i => exact absurd hk Bool.noConfusion
  | tru b => exact absurd hk Bool.noConfusion
  | nam w => exact absurd hk Bool.noConfusion
  | rai w =>
    have hx : xs = [] := by cases xs with | nil => rfl | cons a b => exact absurd ha (by simp [Kd.ar])
    subst hx
    have e : (Tr.nd (.rai w) []).d = .tup [.str "raise", .str w] := rfl
    rw [e]
    simp -dsimp [List.replicate, inD_t2, inD_t4]
    first | done | rfl
  | do_ w =>
    obtain ⟨a, b, rfl⟩ := len2 ha
    have e : (Tr.nd (.do_ w) [a, b]).d = .tup [.str "do", .str w, a.d, b.d] := rfl
    rw [e]
    simp -dsimp [List.replicate, inD_t2, inD_t4]
    first | done | rfl
  | let_ w =>
    obtain ⟨a, b, rfl⟩ := len2 ha
    have e : (Tr.nd (.let_ w) [a, b]).d = .tup [.str "let", .str w, a.d, b.d] := rfl
    rw [e]
    simp -dsimp [List.replicate, inD_t2, inD_t4]
    first | done | rfl
  | try_ w =>
    obtain ⟨a, b, rfl⟩ := len2 ha
    have e : (Tr.nd (.try_ w) [a, b]).d = .tup [.str "try", a.d, .str w, b.d] := rfl
    rw [e]
    simp -dsimp [List.replicate, inD_t2, inD_t4]
    first | done | rfl
  | loop w v =>
    obtain ⟨a, b, c, rfl⟩ := len3 ha
    have e : (Tr.nd (.loop w v) [a, b, c]).d = .tup [.str "loop", .str w, a.d, .str v, b.d, c.d] := rfl
    rw [e]
    simp -dsimp [List.replicate, inD_t2, inD_t4]
    first | done | rfl
  | pick i =>
    obtain ⟨a, rfl⟩ := len1 ha
    have e : (Tr.nd (.pick i) [a]).d = .tup [.str "pick", .int i, a.d] := rfl
    rw [e]
    simp -dsimp [List.replicate, inD_t2, inD_t4]
    first | done | rfl
  | mark i =>
    obtain ⟨a, rfl⟩ := len1 ha
    have e : (Tr.nd (.mark i) [a]).d = .tup [.str "mark", .int i, a.d] := rfl
    rw [e]
    simp -dsimp [List.replicate, inD_t2, inD_t4]
    first | done | rfl
  | many =>
    obtain ⟨a, rfl⟩ := len1 ha
    have e : (Tr.nd .many [a]).d = .tup [.str "many", a.d] := rfl
    rw [e]
    have c1 : cutD [.str "many", a.d] (some 1) none = [a.d] := rfl
    simp -dsimp [List.replicate, inD_t2, inD_t4, c1]
    first | done | rfl
  | iff =>
    obtain ⟨a, b, c, rfl⟩ := len3 ha
    have e : (Tr.nd .iff [a, b, c]).d = .tup [.str "if", a.d, b.d, c.d] := rfl
    rw [e]
    have c1 : cutD [.str "if", a.d, b.d, c.d] (some 1) none = [a.d, b.d, c.d] := rfl
    simp -dsimp [List.replicate, inD_t2, inD_t4, c1]
    first | done | rfl
  | parts =>
    have e : (Tr.nd .parts xs).d = .tup [.str "parts", .tup (Tr.ds xs)] := rfl
    rw [e]
    simp -dsimp [List.replicate, inD_t2, inD_t4, ln, show xs.length ≤ 16777216 by omega]
    first | done | rfl
  | call w =>
    have e : (Tr.nd (.call w) xs).d = .tup [.str "call", .str w, .tup (Tr.ds xs)] := rfl
    rw [e]
    simp -dsimp [List.replicate, inD_t2, inD_t4, ln, show xs.length ≤ 16777216 by omega]
    first | done | rfl
  | melt w ws =>
    obtain ⟨h1, h2⟩ : xs.length = ws.length + 1 ∧ ws.length ≤ 1000 := ha
    obtain ⟨ys, l, rfl, hy⟩ := snoc_of h1
    have e : (Tr.nd (.melt w ws) (ys ++ [l])).d = .tup [.str "melt", .str w, .tup (prs ws (Tr.ds ys)), l.d] := by
      show (Kd.melt w ws).mk (Tr.ds (ys ++ [l])) = _
      rw [ds_app]
      exact mk_melt (by rw [ds_len]; exact hy)
    rw [e]
    have ed : Tr.ds (ys ++ [l]) = Tr.ds ys ++ [l.d] := ds_app ys [l]
    rw [ed]
    obtain ⟨P, hP⟩ : ∃ P, P = prs ws (Tr.ds ys) := ⟨_, rfl⟩
    have lc : mLc [2] (iSeq (eM (mBin ixD (eN 0) (eC (.int 2))))) (gN 2) tTrue (eM (mBin ixD (eN 2) (eC (.int 1)))) [some (.d (.tup [.str "melt", .str w, .tup P, l.d])), some (.d (.str "melt")), none] =
        .ok (.lst (Tr.ds ys)) [some (.d (.tup [.str "melt", .str w, .tup P, l.d])), some (.d (.str "melt")), none] := by
      have e2 := mLc_ts (own := [2]) (fi := iSeq (eM (mBin ixD (eN 0) (eC (.int 2))))) (g := gN 2) (fe := eM (mBin ixD (eN 2) (eC (.int 1)))) (S := [some (.d (.tup [.str "melt", .str w, .tup P, l.d])), some (.d (.str "melt")), none]) (S1 := [some (.d (.tup [.str "melt", .str w, .tup P, l.d])), some (.d (.str "melt")), none]) (ts := List.zip ws ys) (fun p => .tup [.str p.1, p.2.d]) (fun p => p.2.d) (by
        rw [← prs_zip, ← hP]
        simp -dsimp) (by
        intro p hp
        refine ⟨[some (.d (.tup [.str "melt", .str w, .tup P, l.d])), some (.d (.str "melt")), some (.d (.tup [.str p.1, p.2.d]))], rfl, ?_⟩
        simp -dsimp [wipeS]) (by rw [List.length_zip, hy]; show _ ≤ 16777216; omega)
      rw [e2, ds_map]
      have : ∀ (ws : List Str) (ys : List Tr), ys.length = ws.length → (List.zip ws ys).map (fun p => p.2.d) = ys.map Tr.d := by
        intro ws
        induction ws with
        | nil => intro ys hh; cases ys with | nil => rfl | cons a b => simp at hh
        | cons v ws ih =>
          intro ys hh
          cases ys with
          | nil => simp at hh
          | cons y ys =>
            rw [List.zip_cons_cons, List.map_cons, List.map_cons, ih ys (by simpa using hh)]
      rw [this ws ys hy]
      rfl
    rw [← hP]
    have yl : (Tr.ds ys).length ≤ 1000 := by rw [ds_len]; omega
    obtain ⟨Y, hY⟩ : ∃ Y, Y = Tr.ds ys := ⟨_, rfl⟩
    rw [← hY] at lc yl ⊢
    simp -dsimp [List.replicate, inD_t2, inD_t4, lc, show Y.length + 1 ≤ 16777216 by omega]
    first | done | rfl
theorem w_at {ws : List Str} (hl : ws.length = 5) {v : Int} (v0 : 0 ≤ v) (v1 : v < 5) : ∃ w, w ∈ ws ∧ atI (ws.map D.str) v = some (.str w) := by
  have h : v.toNat < ws.length := by omega
  exact ⟨ws[v.toNat], List.getElem_mem h, atI_ok v0 (by rw [List.getElem?_map, List.getElem?_eq_getElem h]; rfl)⟩
theorem plain_wp (n : Nat) (g : Bag) (hg : g.Ok) (ws : List Str) (hl : ws.length = 5) (hw : ∀ w ∈ ws, Wd w) (hwb : ∀ w ∈ ws, wordB w = true) {Q : M → List (Option M) → Prop}
    (h : ∀ (k : Kd) (g' : Bag), k.ar 0 → k.wk → k.tk 0 → g'.Ok → Q (.d (k.mk [])) [some g'.enc, some (.lst (ws.map .str)), some (.d (.int 0))]) : (den (n + 2) "_law_plain" [g.enc, .lst (ws.map .str), .d (.int 0)]).wp Q := by
  rw [den__law_plain]
  refine run_wp rfl ?_
  unfold b__law_plain
  have hne : (ws.map D.str).isEmpty = false := by
    cases ws with
    | nil => cases hl
    | cons a b => rfl
  simp -dsimp [List.replicate, den__law_take]
  refine take_wp _ g _ hg (by decide) (by decide) fun way g w0 w1 hg => ?_
  by_cases c3 : 3 < way
  · simp -dsimp [-neD_ap, c3, ne_nil, hne, hl]
    refine take_wp _ g _ hg (by decide) (by decide) fun v g v0 v1 hg => ?_
    obtain ⟨w, hm, e⟩ := w_at hl v0 v1
    simp -dsimp [e]
    exact h (.nam w) g rfl (hw w hm) (hwb w hm) hg
  by_cases c0 : way = 0
  · subst c0
    simp -dsimp
    refine take_wp _ g _ hg (by decide) (by decide) fun v g v0 v1 hg => ?_
    simp -dsimp
    exact h (.tru _) g rfl trivial trivial hg
  by_cases c1 : way = 1
  · subst c1
    simp -dsimp
    refine take_wp _ g _ hg (by decide) (by decide) fun v g v0 v1 hg => ?_
    simp -dsimp
    exact h (.num v) g rfl ⟨v0, by omega⟩ trivial hg
  simp -dsimp [c3, c0, c1]
  refine take_wp _ g _ hg (by decide) (by decide) fun v g v0 v1 hg => ?_
  simp -dsimp
  exact h (.num v) g rfl ⟨v0, by omega⟩ trivial hg
theorem node_wp (n : Nat) (g : Bag) (hg : g.Ok) (way : Int) (w0 : 0 ≤ way) (w1 : way < 16) (a b : Str) (ha : Wd a) (hb : Wd b) (xs : List Tr) (ho : Tr.oks xs) (hk : Tr.wks xs)
    (htk : Tr.tks xs) (wa : wordB a = true) (wb : wordB b = true) (hab : a ≠ b) (h04 : way < 5 ∨ way = 8 → xs.length ≤ 4) (h0 : xs.length ≤ 1000) (h1 : way = 9 ∨ way = 15 → xs.length = 1) (h2 : way = 5 ∨ way = 6 ∨ way = 7 ∨ way = 11 ∨ way = 12 → xs.length = 2) (h3 : way = 10 ∨ way = 13 → xs.length = 3) (h4 : way = 14 → xs = [] ∨ xs.length = 2)
    {Q : M → List (Option M) → Prop}
    (h : ∀ (t : Tr) (g' : Bag), t.ok → t.wk → t.tk → t.dep ≤ Tr.deps xs + 1 → t.sz ≤ Tr.szs xs + 1 → g'.Ok → Q (.d t.d) [some g'.enc, some (.d (.int way)), some (.d (.tup [.str a, .str b])), some (.lst (Tr.ds xs)), some (.d (.tup [.str a, .str b])), some (.d (.int 0))]) :
    (den (n + 2) "_law_node" [g.enc, .d (.int way), .d (.tup [.str a, .str b]), .lst (Tr.ds xs), .d (.tup [.str a, .str b]), .d (.int 0)]).wp Q := by
  have mk : ∀ (k : Kd) (g' : Bag), k.ar xs.length → k.wk → k.tk xs.length → g'.Ok → Q (.d (k.mk (Tr.ds xs))) [some g'.enc, some (.d (.int way)), some (.d (.tup [.str a, .str b])), some (.lst (Tr.ds xs)), some (.d (.tup [.str a, .str b])), some (.d (.int 0))] :=
    fun k g' ka kw kt hg => h (.nd k xs) g' ⟨ka, ho⟩ ⟨kw, hk⟩ ⟨kt, htk⟩ (Nat.le_refl _) (Nat.le_refl _) hg
  rw [den__law_node]
  refine run_wp rfl ?_
  unfold b__law_node
  by_cases c5 : way < 5
  · simp -dsimp [List.replicate, den__law_take, c5]
    exact mk (.call a) g h0 ha ⟨wa, h04 (.inl c5)⟩ hg
  by_cases c8 : way < 8
  · obtain ⟨x, y, rfl⟩ := len2 (h2 (by omega))
    have dy : Tr.ds [x, y] = [x.d, y.d] := rfl
    simp -dsimp [List.replicate, den__law_take, c5, c8, dy]
    refine take_wp _ g _ hg (by decide) (by decide) fun v g v0 v1 hg => ?_
    obtain ⟨c, e, hc, hcs⟩ := op1_at v0 v1
    simp -dsimp [e, op_lens.1]
    exact mk (.do_ ⟨#[c]⟩) g rfl hc hcs hg
  by_cases e8 : way = 8
  · subst e8
    simp -dsimp [List.replicate, den__law_take]
    exact mk .parts g h0 trivial (h04 (.inr rfl)) hg
  by_cases e9 : way = 9
  · subst e9
    obtain ⟨x, rfl⟩ := len1 (h1 (by omega))
    have dy : Tr.ds [x] = [x.d] := rfl
    simp -dsimp [List.replicate, den__law_take, dy]
    refine take_wp _ g _ hg (by decide) (by decide) fun v g v0 v1 hg => ?_
    obtain ⟨p, hp⟩ : ∃ p : Int, p = 1 + v := ⟨_, rfl⟩
    simp -dsimp [← hp]
    refine take_wp _ g _ hg (by decide) (by decide) fun u g u0 u1 hg => ?_
    have : u = 0 ∨ u = 1 := by omega
    rcases this with e | e <;> subst e
    · simp -dsimp
      exact mk .many g rfl trivial trivial hg
    · simp -dsimp
      exact mk (.pick p) g rfl ⟨by omega, by omega⟩ ⟨by omega, by omega⟩ hg
  by_cases e10 : way = 10
  · subst e10
    obtain ⟨x, y, z, rfl⟩ := len3 (h3 (by omega))
    have dy : Tr.ds [x, y, z] = [x.d, y.d, z.d] := rfl
    obtain ⟨k, ys⟩ := x
    have dx : (Tr.nd k ys).d = k.mk (Tr.ds ys) := rfl
    have e0 := mk_0 k (Tr.ds ys)
    by_cases hn : ∃ i, k = .num i
    · obtain ⟨i, rfl⟩ := hn
      have m1 : (Kd.num i).mk (Tr.ds ys) = .tup [.str "number", .int i] := rfl
      simp -dsimp [List.replicate, den__law_take, dy, dx, m1]
      refine take_wp _ g _ hg (by decide) (by decide) fun vv g v0 v1 hg => ?_
      simp -dsimp
      obtain ⟨⟨xa, xo⟩, yo, zo, _⟩ : (Tr.nd (.num i) ys).ok ∧ y.ok ∧ z.ok ∧ True := ho
      obtain ⟨⟨xk, xw⟩, yk, zk, _⟩ : (Tr.nd (.num i) ys).wk ∧ y.wk ∧ z.wk ∧ True := hk
      have p := sd_pos (.nd (.num i) ys)
      have d1 : Tr.dep (.nd (.num i) ys) ≤ Tr.deps [.nd (.num i) ys, y, z] := Nat.le_max_left _ _
      refine (?_ : ∀ t : Tr, t.ok → t.wk → t.tk → t.dep = 1 → t.sz = 1 → Q (.d (.tup [.str "if", t.d, y.d, z.d])) _) (.nd (.tru _) []) ⟨rfl, trivial⟩ ⟨trivial, trivial⟩ ⟨trivial, trivial⟩ rfl rfl
      obtain ⟨xt, yt, zt, _⟩ : (Tr.nd (.num i) ys).tk ∧ y.tk ∧ z.tk ∧ True := htk
      intro t tok twk ttk td ts
      have := h (.nd .iff [t, y, z]) g ⟨rfl, tok, yo, zo, trivial⟩ ⟨trivial, twk, yk, zk, trivial⟩ ⟨trivial, ttk, yt, zt, trivial⟩ (by
        have e1 : Tr.deps [.nd (.num i) ys, y, z] = max (Tr.dep (.nd (.num i) ys)) (max y.dep (max z.dep 0)) := rfl
        rw [e1]
        show max t.dep (max y.dep (max z.dep 0)) + 1 ≤ _
        omega) (by
        have e1 : Tr.szs [.nd (.num i) ys, y, z] = Tr.sz (.nd (.num i) ys) + (y.sz + (z.sz + 0)) := rfl
        rw [e1]
        show t.sz + (y.sz + (z.sz + 0)) + 1 ≤ _
        omega) hg
      rw [dy, dx, m1] at this
      exact this
    · have nn := nm_num (k := k) fun i e => hn ⟨i, e⟩
      simp -dsimp [List.replicate, den__law_take, dy, dx, e0, nn]
      refine take_wp _ g _ hg (by decide) (by decide) fun vv g v0 v1 hg => ?_
      simp -dsimp [e0, nn]
      exact mk .iff g rfl trivial trivial hg
  by_cases c13 : way < 13
  · obtain ⟨x, y, rfl⟩ := len2 (h2 (by omega))
    have dy : Tr.ds [x, y] = [x.d, y.d] := rfl
    simp -dsimp [List.replicate, den__law_take, c5, c8, e8, e9, e10, c13, dy]
    exact mk (.let_ a) g rfl ha wa hg
  by_cases e13 : way = 13
  · subst e13
    obtain ⟨x, y, z, rfl⟩ := len3 (h3 (by omega))
    have dy : Tr.ds [x, y, z] = [x.d, y.d, z.d] := rfl
    simp -dsimp [List.replicate, den__law_take, dy]
    refine take_wp _ g _ hg (by decide) (by decide) fun u g u0 u1 hg => ?_
    obtain ⟨q, hq, q0, q1⟩ : ∃ q : Int, atI [D.int 4, .int 52] (if u = 7 then 1 else 0) = some (.int q) ∧ 0 < q ∧ q ≤ 52 := by
      by_cases e : u = 7
      · exact ⟨52, by rw [if_pos e]; exact atI_ok (by decide) rfl, by omega, by omega⟩
      · exact ⟨4, by rw [if_neg e]; exact atI_ok (by decide) rfl, by omega, by omega⟩
    simp -dsimp [hq]
    refine take_wp _ g _ hg q0 (by omega) fun v g v0 v1 hg => ?_
    simp -dsimp
    refine take_wp _ g _ hg (by decide) (by decide) fun u g u0 u1 hg => ?_
    simp -dsimp
    have : u = 0 ∨ u = 1 := by omega
    rcases this with e | e <;> subst e
    · simp -dsimp
      exact mk (.loop a b) g rfl ⟨ha, hb⟩ ⟨wa, wb, hab⟩ hg
    · simp -dsimp
      obtain ⟨xo, yo, zo, _⟩ : x.ok ∧ y.ok ∧ z.ok ∧ True := ho
      obtain ⟨xk, yk, zk, _⟩ : x.wk ∧ y.wk ∧ z.wk ∧ True := hk
      obtain ⟨xt, yt, zt, _⟩ : x.tk ∧ y.tk ∧ z.tk ∧ True := htk
      have p := sd_pos y
      exact h (.nd (.loop a b) [x, .nd (.num v) [], z]) g ⟨rfl, xo, ⟨rfl, trivial⟩, zo, trivial⟩ ⟨⟨ha, hb⟩, xk, ⟨⟨v0, by omega⟩, trivial⟩, zk, trivial⟩ ⟨⟨wa, wb, hab⟩, xt, ⟨trivial, trivial⟩, zt, trivial⟩ (by
        show max x.dep (max 1 (max z.dep 0)) + 1 ≤ max x.dep (max y.dep (max z.dep 0)) + 1
        omega) (by
        show x.sz + (1 + (z.sz + 0)) + 1 ≤ x.sz + (y.sz + (z.sz + 0)) + 1
        omega) hg
  by_cases e14 : way = 14
  · subst e14
    rcases h4 rfl with e | e
    · subst e
      have dy : Tr.ds [] = [] := rfl
      simp -dsimp [List.replicate, den__law_take, dy]
      exact mk (.rai a) g rfl ha wa hg
    · obtain ⟨x, y, rfl⟩ := len2 e
      have dy : Tr.ds [x, y] = [x.d, y.d] := rfl
      obtain ⟨xo, yo, _⟩ : x.ok ∧ y.ok ∧ True := ho
      obtain ⟨xk, yk, _⟩ : x.wk ∧ y.wk ∧ True := hk
      have xp := (pft_ok _ (tr_pft x xo xk)).1
      have yp := (pft_ok _ (tr_pft y yo yk)).1
      simp -dsimp [List.replicate, den__law_take, dy, xp, yp]
      refine take_wp _ g _ hg (by decide) (by decide) fun u g u0 u1 hg => ?_
      obtain ⟨k1, k2, k3⟩ := wd3
      obtain ⟨b1, b2, b3⟩ := wb3
      have : u = 0 ∨ u = 1 ∨ u = 2 ∨ u = 3 := by omega
      rcases this with e | e | e | e <;> subst e
      · simp -dsimp
        exact mk (.try_ a) g rfl ha wa hg
      · simp -dsimp
        exact mk (.try_ "kind") g rfl k1 b1 hg
      · simp -dsimp
        exact mk (.try_ "far") g rfl k2 b2 hg
      · simp -dsimp
        exact mk (.try_ "nought") g rfl k3 b3 hg
  have e15 : way = 15 := by omega
  subst e15
  obtain ⟨x, rfl⟩ := len1 (h1 (by omega))
  have dy : Tr.ds [x] = [x.d] := rfl
  simp -dsimp [List.replicate, den__law_take, dy]
  refine take_wp _ g _ hg (by decide) (by decide) fun v g v0 v1 hg => ?_
  simp -dsimp
  refine take_wp _ g _ hg (by decide) (by decide) fun u g u0 u1 hg => ?_
  by_cases cu : u = 15
  · subst cu
    simp -dsimp
    exact mk (.mark 1000000000) g rfl ⟨by decide, by decide⟩ trivial hg
  · simp -dsimp [cu]
    exact mk (.mark v) g rfl ⟨v0, by omega⟩ trivial hg
theorem w_inj {ws : List Str} (hn : ws.Nodup) (hl : ws.length = 5) {u v : Int} {w : Str} (u0 : 0 ≤ u) (u1 : u < 5) (v0 : 0 ≤ v) (v1 : v < 5) (e1 : atI (ws.map D.str) u = some (.str w)) (e2 : atI (ws.map D.str) v = some (.str w)) : u = v := by
  obtain ⟨a, rfl⟩ : ∃ a : Nat, u = (a : Int) := ⟨u.toNat, by omega⟩
  obtain ⟨b, rfl⟩ : ∃ a : Nat, v = (a : Int) := ⟨v.toNat, by omega⟩
  have ha : a < ws.length := by omega
  have hb : b < ws.length := by omega
  rw [atI_nn, List.getElem?_map, List.getElem?_eq_getElem ha] at e1
  rw [atI_nn, List.getElem?_map, List.getElem?_eq_getElem hb] at e2
  have e1 : D.str ws[a] = .str w := Option.some.inj e1
  have e2 : D.str ws[b] = .str w := Option.some.inj e2
  injection e1 with e1
  injection e2 with e2
  have hp := List.pairwise_iff_getElem.mp hn
  rcases Nat.lt_trichotomy a b with h | h | h
  · exact absurd (e1.trans e2.symm) (hp a b ha hb h)
  · rw [h]
  · exact absurd (e2.trans e1.symm) (hp b a hb ha h)
/-- what `_law_any` does -/
noncomputable def AnyOk (f : Str → List M → CR) (ws : List Str) (deep : Int) : Prop := ∀ (g : Bag) (room : Int) (Q : M → List (Option M) → Prop), g.Ok → 0 ≤ room → room ≤ 660 →
    (∀ (t : Tr) (g' : Bag), t.ok → t.wk → t.tk → (t.dep : Int) ≤ max 1 deep → (t.sz : Int) ≤ max 1 room → g'.Ok → Q (.d t.d) [some g'.enc, some (.lst (ws.map .str)), some (.d (.int room)), some (.d (.int deep))]) →
    (f "_law_any" [g.enc, .lst (ws.map .str), .d (.int room), .d (.int deep)]).wp Q
theorem many_at {way z : Int} (w0 : 0 ≤ way) (w1 : way < 18) (z0 : 0 ≤ z) (z1 : z < 5) : ∃ m : Int,
    atI [D.int z, .int z, .int z, .int z, .int z, .int 2, .int 2, .int 2, .int z, .int 1, .int 3, .int 2, .int 2, .int 3, .int (2 * z.fmod 2), .int 1, .int (1 + z), .int (1 + z)] way = some (.int m) ∧
    0 ≤ m ∧ m ≤ 5 ∧ (way = 9 ∨ way = 15 → m = 1) ∧ (way = 5 ∨ way = 6 ∨ way = 7 ∨ way = 11 ∨ way = 12 → m = 2) ∧ (way = 10 ∨ way = 13 → m = 3) ∧ (way = 14 → m = 0 ∨ m = 2) ∧ (16 ≤ way → m = 1 + z) ∧ (way < 5 ∨ way = 8 → m = z) := by
  have h2 : 0 ≤ z.fmod 2 ∧ z.fmod 2 < 2 := by rw [fmod_pos (by decide)]; omega
  obtain ⟨u, hu⟩ : ∃ u, u = z.fmod 2 := ⟨_, rfl⟩
  rw [← hu] at h2 ⊢
  have hw : way = 0 ∨ way = 1 ∨ way = 2 ∨ way = 3 ∨ way = 4 ∨ way = 5 ∨ way = 6 ∨ way = 7 ∨ way = 8 ∨ way = 9 ∨ way = 10 ∨ way = 11 ∨ way = 12 ∨ way = 13 ∨ way = 14 ∨ way = 15 ∨ way = 16 ∨ way = 17 := by omega
  rcases hw with e | e | e | e | e | e | e | e | e | e | e | e | e | e | e | e | e | e <;> subst e
  · exact ⟨z, atI_ok (by decide) rfl, by omega, by omega, by omega, by omega, by omega, by omega, by omega, by omega⟩
  · exact ⟨z, atI_ok (by decide) rfl, by omega, by omega, by omega, by omega, by omega, by omega, by omega, by omega⟩
  · exact ⟨z, atI_ok (by decide) rfl, by omega, by omega, by omega, by omega, by omega, by omega, by omega, by omega⟩
  · exact ⟨z, atI_ok (by decide) rfl, by omega, by omega, by omega, by omega, by omega, by omega, by omega, by omega⟩
  · exact ⟨z, atI_ok (by decide) rfl, by omega, by omega, by omega, by omega, by omega, by omega, by omega, by omega⟩
  · exact ⟨2, atI_ok (by decide) rfl, by omega, by omega, by omega, by omega, by omega, by omega, by omega, by omega⟩
  · exact ⟨2, atI_ok (by decide) rfl, by omega, by omega, by omega, by omega, by omega, by omega, by omega, by omega⟩
  · exact ⟨2, atI_ok (by decide) rfl, by omega, by omega, by omega, by omega, by omega, by omega, by omega, by omega⟩
  · exact ⟨z, atI_ok (by decide) rfl, by omega, by omega, by omega, by omega, by omega, by omega, by omega, by omega⟩
  · exact ⟨1, atI_ok (by decide) rfl, by omega, by omega, by omega, by omega, by omega, by omega, by omega, by omega⟩
  · exact ⟨3, atI_ok (by decide) rfl, by omega, by omega, by omega, by omega, by omega, by omega, by omega, by omega⟩
  · exact ⟨2, atI_ok (by decide) rfl, by omega, by omega, by omega, by omega, by omega, by omega, by omega, by omega⟩
  · exact ⟨2, atI_ok (by decide) rfl, by omega, by omega, by omega, by omega, by omega, by omega, by omega, by omega⟩
  · exact ⟨3, atI_ok (by decide) rfl, by omega, by omega, by omega, by omega, by omega, by omega, by omega, by omega⟩
  · exact ⟨2 * u, atI_ok (by decide) rfl, by omega, by omega, by omega, by omega, by omega, by omega, by omega, by omega⟩
  · exact ⟨1, atI_ok (by decide) rfl, by omega, by omega, by omega, by omega, by omega, by omega, by omega, by omega⟩
  · exact ⟨1 + z, atI_ok (by decide) rfl, by omega, by omega, by omega, by omega, by omega, by omega, by omega, by omega⟩
  · exact ⟨1 + z, atI_ok (by decide) rfl, by omega, by omega, by omega, by omega, by omega, by omega, by omega, by omega⟩
/-- a melt's row, made in turn -/
theorem range_prs (vs : List Str) (ds : List D) (z : Nat) (h1 : vs.length = z) (h2 : ds.length = z) :
    ((List.range z).map fun j => D.tup [.str (vs.getD j ""), ds.getD j .non]) = prs vs ds := by
  rw [← zip_prs]
  apply List.ext_getElem?
  intro i
  rw [List.getElem?_map, List.getElem?_zipWith]
  by_cases hi : i < z
  · rw [List.getElem?_range hi, List.getElem?_eq_getElem (by omega), List.getElem?_eq_getElem (by omega)]
    simp [List.getD_eq_getElem?_getD, List.getElem?_eq_getElem, h1, h2, hi]
  · rw [List.getElem?_eq_none (by rw [List.length_range]; omega), List.getElem?_eq_none (by omega)]
    rfl
theorem any_step (n : Nat) (ws : List Str) (hl : ws.length = 5) (hw : ∀ w ∈ ws, Wd w) (hwb : ∀ w ∈ ws, wordB w = true) (hnd : ws.Nodup) (deep : Int) (hd : deep ≤ 63) (hD : 2 ≤ deep → AnyOk (den (n + 2)) ws (deep - 1)) : AnyOk (den (n + 3)) ws deep := by
  intro g room Q hg r0 r1 h
  rw [den__law_any]
  refine run_wp rfl ?_
  unfold b__law_any
  simp -dsimp [List.replicate, den__law_take, hl]
  refine take_wp _ g _ hg (by decide) (by decide) fun way g w0 w1 hg => ?_
  simp -dsimp [hl]
  refine take_wp _ g _ hg (by decide) (by decide) fun at_ g a0 a1 hg => ?_
  obtain ⟨a, ha, ea⟩ := w_at hl a0 a1
  obtain ⟨q, hq⟩ : ∃ q : Int, q = (at_ + 1).fmod 5 := ⟨_, rfl⟩
  have qr : 0 ≤ q ∧ q < 5 := by rw [hq, fmod_pos (by decide)]; omega
  obtain ⟨b, hb, eb⟩ := w_at hl qr.1 qr.2
  have hab : a ≠ b := by
    intro e
    have := w_inj hnd hl a0 a1 qr.1 qr.2 ea (e ▸ eb)
    rw [hq, fmod_pos (by decide)] at this
    omega
  simp -dsimp [hl, ea, ← hq, eb]
  refine take_wp _ g _ hg (by decide) (by decide) fun z g z0 z1 hg => ?_
  obtain ⟨m, em, m0, m5, m1, m2, m3, m4, mz, mw⟩ := many_at w0 w1 z0 z1
  have mo : mulOk 2 (z.fmod 2) = true := mulOk_l (by decide)
  have pl : ∀ (k : Kd) (g' : Bag), k.ar 0 → k.wk → k.tk 0 → g'.Ok → Q (.d (k.mk [])) [some g'.enc, some (.lst (ws.map .str)), some (.d (.int room)), some (.d (.int deep))] :=
    fun k g' ka kw kt hg => h (.nd k []) g' ⟨ka, trivial⟩ ⟨kw, trivial⟩ ⟨kt, trivial⟩ (by show (1 : Int) ≤ _; omega) (by show (1 : Int) ≤ _; omega) hg
  by_cases c1 : room < 1 + m
  · simp -dsimp [mo, em, c1]
    refine plain_wp n g hg ws hl hw hwb fun k g ka kw kt hg => ?_
    simp -dsimp
    exact pl k g ka kw kt hg
  by_cases c2 : deep < 2
  · simp -dsimp [mo, em, c1, c2]
    refine plain_wp n g hg ws hl hw hwb fun k g ka kw kt hg => ?_
    simp -dsimp
    exact pl k g ka kw kt hg
  have hA := hD (by omega)
  obtain ⟨p, hp⟩ : ∃ p : Int, p = if 1 < m then m else 1 := ⟨_, rfl⟩
  have pr : 1 ≤ p ∧ p ≤ 5 ∧ (1 ≤ m → p = m) := by rw [hp]; split <;> omega
  have dp : divOk p = true := divOk_of (by omega) (by omega)
  obtain ⟨s, hs⟩ : ∃ s : Int, s = (room - 1).fdiv p := ⟨_, rfl⟩
  simp -dsimp [mo, em, c1, c2, ← hp, dp, ← hs]
  have pc5 : p = 1 ∨ p = 2 ∨ p = 3 ∨ p = 4 ∨ p = 5 := by omega
  have sr : 0 ≤ s ∧ p * s ≤ room - 1 ∧ s ≤ 660 := by
    rw [hs, fdiv_pos (by omega)]
    rcases pc5 with e | e | e | e | e <;> rw [e] <;> omega
  have s1 : 1 ≤ m → 1 ≤ s := by
    intro h1
    have := pr.2.2 h1
    rw [hs, fdiv_pos (by omega)]
    rcases pc5 with e | e | e | e | e <;> rw [e] <;> omega
  have ms : m * s ≤ room - 1 := by
    by_cases h1 : 1 ≤ m
    · rw [← pr.2.2 h1]; exact sr.2.1
    · have : m = 0 := by omega
      subst this
      omega
  obtain ⟨g0, hg0⟩ : ∃ g0, g0 = g := ⟨_, rfl⟩
  rw [← hg0]
  rw [← hg0] at hg
  obtain ⟨e, he⟩ : ∃ e : Nat, deep - 1 = (e : Int) := ⟨(deep - 1).toNat, by omega⟩
  obtain ⟨I, hI⟩ : ∃ I : List D → List D → SS → Prop, I = fun ds acc S => ∃ (g : Bag) (ts : List Tr) (s12 : Option Ev.M), g.Ok ∧ acc = Tr.ds ts ∧ Tr.oks ts ∧ Tr.wks ts ∧ Tr.tks ts ∧ Tr.deps ts ≤ e ∧ (Tr.szs ts : Int) ≤ ts.length * s ∧ (ts.length : Int) + ds.length = m ∧
      S = [some g.enc, some (M.lst (List.map D.str ws)), some (M.d (D.int room)), some (M.d (D.int deep)),
          some (M.d (D.int way)), some (M.d (D.int at_)), some (M.d (D.tup [D.str a, D.str b])), some (M.d (D.int z)),
          some (M.d (D.int m)), some (M.d (D.int s)), none, none, s12] := ⟨_, rfl⟩
  refine wp_lc (ds := rangeD 0 m.toNat) (S1 := [some g0.enc, some (M.lst (List.map D.str ws)), some (M.d (D.int room)), some (M.d (D.int deep)),
          some (M.d (D.int way)), some (M.d (D.int at_)), some (M.d (D.tup [D.str a, D.str b])), some (M.d (D.int z)),
          some (M.d (D.int m)), some (M.d (D.int s)), none, none, none]) I (by simp -dsimp [show -4611686018427387904 ≤ m ∧ m < 4611686018427387904 by omega]) (by
      rw [hI]
      exact ⟨g0, [], _, hg, rfl, trivial, trivial, trivial, Nat.zero_le _, by simp [Tr.szs], by unfold rangeD; simp; omega, rfl⟩) ?_ ?_
  · intro d ds acc S hS
    rw [hI] at hS
    obtain ⟨g, ts, s12, hg, rfl, to, tw, tt, td, tz, tl, rfl⟩ := hS
    rw [List.length_cons] at tl
    refine ⟨[some g.enc, some (M.lst (List.map D.str ws)), some (M.d (D.int room)), some (M.d (D.int deep)),
          some (M.d (D.int way)), some (M.d (D.int at_)), some (M.d (D.tup [D.str a, D.str b])), some (M.d (D.int z)),
          some (M.d (D.int m)), some (M.d (D.int s)), none, none, some (.d d)], rfl, ?_⟩
    simp -dsimp [tTrue]
    refine hA g s _ hg sr.1 sr.2.2 fun t g tok twk ttk tdp tsz hg => ?_
    have s1 := s1 (by omega)
    simp -dsimp [show (Tr.ds ts).length < 16777216 by rw [ds_len]; omega]
    refine ⟨_, _, ⟨rfl, rfl⟩, ?_⟩
    rw [hI]
    refine ⟨g, ts ++ [t], _, hg, by rw [ds_app]; rfl, oks_of fun x hx => ?_, wks_of fun x hx => ?_, tks_of fun x hx => ?_, tdeps_of fun x hx => ?_, ?_, by rw [List.length_append, List.length_singleton]; omega, rfl⟩
    · rcases List.mem_append.mp hx with hx | hx
      · exact oks_mem to x hx
      · rw [List.mem_singleton.mp hx]; exact tok
    · rcases List.mem_append.mp hx with hx | hx
      · exact wks_mem tw x hx
      · rw [List.mem_singleton.mp hx]; exact twk
    · rcases List.mem_append.mp hx with hx | hx
      · exact tks_mem tt x hx
      · rw [List.mem_singleton.mp hx]; exact ttk
    · rcases List.mem_append.mp hx with hx | hx
      · exact deps_mem td x hx
      · rw [List.mem_singleton.mp hx]; omega
    · rw [szs_app, List.length_append, List.length_singleton]
      have e1 : ((ts.length + 1 : Nat) : Int) * s = ts.length * s + s := by
        rw [Int.natCast_add, Int.add_mul]
        omega
      rw [e1]
      have : Tr.szs [t] = t.sz := by show t.sz + 0 = t.sz; omega
      rw [this]
      omega
  intro acc S hS
  rw [hI] at hS
  obtain ⟨g, ts, s12, hg, rfl, to, tw, tt, td, tz, tl, rfl⟩ := hS
  have tl : (ts.length : Int) = m := by simpa using tl
  rw [tl] at tz
  rw [show restS [some g0.enc, some (M.lst (List.map D.str ws)), some (M.d (D.int room)), some (M.d (D.int deep)),
          some (M.d (D.int way)), some (M.d (D.int at_)), some (M.d (D.tup [D.str a, D.str b])), some (M.d (D.int z)),
          some (M.d (D.int m)), some (M.d (D.int s)), none, none, none] [some g.enc, some (M.lst (List.map D.str ws)), some (M.d (D.int room)), some (M.d (D.int deep)),
          some (M.d (D.int way)), some (M.d (D.int at_)), some (M.d (D.tup [D.str a, D.str b])), some (M.d (D.int z)),
          some (M.d (D.int m)), some (M.d (D.int s)), none, none, s12] [12] = [some g.enc, some (M.lst (List.map D.str ws)), some (M.d (D.int room)), some (M.d (D.int deep)),
          some (M.d (D.int way)), some (M.d (D.int at_)), some (M.d (D.tup [D.str a, D.str b])), some (M.d (D.int z)),
          some (M.d (D.int m)), some (M.d (D.int s)), none, none, none] from rfl]
  have tsz : (Tr.szs ts : Int) + 1 ≤ max 1 room := by omega
  have tdp : (Tr.deps ts : Int) + 1 ≤ max 1 deep := by omega
  by_cases c16 : way < 16
  · simp -dsimp [c16]
    refine node_wp n g hg way w0 c16 a b (hw a ha) (hw b hb) ts to tw tt (hwb a ha) (hwb b hb) hab (by omega) (by omega) (by omega) (by omega) (by omega) (fun h => ?_) fun t g tok twk ttk td tz hg => ?_
    · rcases m4 h with e | e
      · exact .inl (List.eq_nil_of_length_eq_zero (by omega))
      · exact .inr (by omega)
    · simp -dsimp
      exact h t g tok twk ttk (by omega) (by omega) hg
  have mz := mz (by omega)
  obtain ⟨N, rfl⟩ : ∃ N : Nat, z = (N : Int) := ⟨z.toNat, by omega⟩
  obtain ⟨ys, l, rfl, hy⟩ := snoc_of (show ts.length = N + 1 by omega)
  obtain ⟨W, hW⟩ : ∃ W : Int → Str, ∀ v, 0 ≤ v → v < 5 → W v ∈ ws ∧ atI (ws.map D.str) v = some (.str (W v)) := by
    refine ⟨fun v => ws.getD v.toNat "", fun v v0 v1 => ?_⟩
    have h5 : v.toNat < ws.length := by omega
    have e : ws.getD v.toNat "" = ws[v.toNat] := by rw [List.getD_eq_getElem?_getD, List.getElem?_eq_getElem h5]; rfl
    dsimp only
    rw [e]
    exact ⟨List.getElem_mem h5, atI_ok v0 (by rw [List.getElem?_map, List.getElem?_eq_getElem h5]; rfl)⟩
  have lr : ∀ j : Nat, 0 ≤ (at_ + (j : Int)).fmod 5 ∧ (at_ + (j : Int)).fmod 5 < 5 := fun j => by rw [fmod_pos (by decide)]; omega
  obtain ⟨vs, hvs⟩ : ∃ vs : List Str, vs = (List.range N).map fun j : Nat => W ((at_ + (j : Int)).fmod 5) := ⟨_, rfl⟩
  have vl : vs.length = N := by rw [hvs, List.length_map, List.length_range]
  have vw : ∀ v ∈ vs, Wd v := by
    intro v hv
    rw [hvs] at hv
    obtain ⟨j, _, rfl⟩ := List.mem_map.mp hv
    exact hw _ (hW _ (lr j).1 (lr j).2).1
  have vwb : ∀ v ∈ vs, wordB v = true := by
    intro v hv
    rw [hvs] at hv
    obtain ⟨j, _, rfl⟩ := List.mem_map.mp hv
    exact hwb _ (hW _ (lr j).1 (lr j).2).1
  have vnd : vs.Nodup := by
    rw [hvs]
    refine nodup_mapO ?_ List.nodup_range
    intro i hi j hj e
    have hi := List.mem_range.mp hi
    have hj := List.mem_range.mp hj
    have e1 := (hW _ (lr i).1 (lr i).2).2
    have e2 := (hW _ (lr j).1 (lr j).2).2
    rw [e] at e1
    have := w_inj hnd hl (lr i).1 (lr i).2 (lr j).1 (lr j).2 e1 e2
    rw [fmod_pos (by decide), fmod_pos (by decide)] at this
    omega
  have yl : (Tr.ds ys).length = N := by rw [ds_len]; exact hy
  have de : Tr.ds (ys ++ [l]) = Tr.ds ys ++ [l.d] := ds_app ys [l]
  have lc : mLc [12] (iRng1 (eN 7)) (gN 12) tTrue (eM (mTup (aCons (eM (mBin ixD (eN 1) (eM (mBin modD (eM (mBin addD (eN 5) (eN 12))) (eM (mBlt (on1 lenD) (aCons (eN 1) aNil))))))) (aCons (eM (mBin ixD (eN 10) (eN 12))) aNil)))) [some g.enc, some (M.lst (List.map D.str ws)), some (M.d (D.int room)), some (M.d (D.int deep)),
          some (M.d (D.int way)), some (M.d (D.int at_)), some (M.d (D.tup [D.str a, D.str b])), some (M.d (D.int (N : Int))),
          some (M.d (D.int m)), some (M.d (D.int s)), some (.lst (Tr.ds ys ++ [l.d])), none, none] = .ok (.lst (prs vs (Tr.ds ys))) [some g.enc, some (M.lst (List.map D.str ws)), some (M.d (D.int room)), some (M.d (D.int deep)),
          some (M.d (D.int way)), some (M.d (D.int at_)), some (M.d (D.tup [D.str a, D.str b])), some (M.d (D.int (N : Int))),
          some (M.d (D.int m)), some (M.d (D.int s)), some (.lst (Tr.ds ys ++ [l.d])), none, none] := by
    rw [← range_prs vs (Tr.ds ys) N vl yl]
    have e2 := mLc_ts (own := [12]) (fi := iRng1 (eN 7)) (g := gN 12) (fe := eM (mTup (aCons (eM (mBin ixD (eN 1) (eM (mBin modD (eM (mBin addD (eN 5) (eN 12))) (eM (mBlt (on1 lenD) (aCons (eN 1) aNil))))))) (aCons (eM (mBin ixD (eN 10) (eN 12))) aNil)))) (S := [some g.enc, some (M.lst (List.map D.str ws)), some (M.d (D.int room)), some (M.d (D.int deep)),
          some (M.d (D.int way)), some (M.d (D.int at_)), some (M.d (D.tup [D.str a, D.str b])), some (M.d (D.int (N : Int))),
          some (M.d (D.int m)), some (M.d (D.int s)), some (.lst (Tr.ds ys ++ [l.d])), none, none]) (S1 := [some g.enc, some (M.lst (List.map D.str ws)), some (M.d (D.int room)), some (M.d (D.int deep)),
          some (M.d (D.int way)), some (M.d (D.int at_)), some (M.d (D.tup [D.str a, D.str b])), some (M.d (D.int (N : Int))),
          some (M.d (D.int m)), some (M.d (D.int s)), some (.lst (Tr.ds ys ++ [l.d])), none, none]) (ts := List.range N) (fun j : Nat => D.int (j : Int)) (fun j => D.tup [.str (vs.getD j ""), (Tr.ds ys).getD j .non]) (by
        simp -dsimp [show -4611686018427387904 ≤ (N : Int) ∧ (N : Int) < 4611686018427387904 by omega]
        unfold rangeD
        simp) (by
        intro j hj
        have hj : j < N := List.mem_range.mp hj
        obtain ⟨q, hq⟩ : ∃ q : Int, q = (at_ + (j : Int)).fmod 5 := ⟨_, rfl⟩
        have hr := lr j
        have e1 : vs.getD j "" = W q := by rw [hvs, List.getD_eq_getElem?_getD, List.getElem?_map, List.getElem?_range hj, hq]; rfl
        have e3 : atI (Tr.ds ys ++ [l.d]) (j : Int) = some ((Tr.ds ys).getD j .non) := by
          refine atI_ok (by omega) ?_
          rw [Int.toNat_natCast, List.getElem?_append_left (by omega), List.getD_eq_getElem?_getD, List.getElem?_eq_getElem (by omega)]
          rfl
        rw [← hq] at hr
        have ai := (hW q hr.1 hr.2).2
        rw [e1]
        refine ⟨[some g.enc, some (M.lst (List.map D.str ws)), some (M.d (D.int room)), some (M.d (D.int deep)),
          some (M.d (D.int way)), some (M.d (D.int at_)), some (M.d (D.tup [D.str a, D.str b])), some (M.d (D.int (N : Int))),
          some (M.d (D.int m)), some (M.d (D.int s)), some (.lst (Tr.ds ys ++ [l.d])), none, some (.d (.int (j : Int)))], rfl, ?_⟩
        simp -dsimp [wipeS, hl, ← hq, ai, e3]) (by rw [List.length_range]; show N ≤ 16777216; omega)
    rw [e2]
    rfl
  have cl : (Tr.ds ys ++ [l.d]).getLast? = some l.d := by rw [List.getLast?_append]; rfl
  simp -dsimp [c16, de, lc, cl]
  have := h (.nd (.melt b vs) (ys ++ [l])) g ⟨⟨by rw [List.length_append, hy, vl]; rfl, by omega⟩, to⟩ ⟨⟨hw b hb, vw⟩, tw⟩ ⟨⟨hwb b hb, vwb, vnd, by omega⟩, tt⟩ tdp tsz hg
  have em : (Tr.nd (.melt b vs) (ys ++ [l])).d = .tup [.str "melt", .str b, .tup (prs vs (Tr.ds ys)), l.d] := by
    show (Kd.melt b vs).mk (Tr.ds (ys ++ [l])) = _
    rw [de]
    exact mk_melt (by rw [yl, vl])
  rw [em] at this
  exact this
theorem any_wp (ws : List Str) (hl : ws.length = 5) (hw : ∀ w ∈ ws, Wd w) (hwb : ∀ w ∈ ws, wordB w = true) (hnd : ws.Nodup) : ∀ (d n : Nat) (deep : Int), deep ≤ 63 → deep ≤ d + 1 → AnyOk (den (n + d + 3)) ws deep := by
  intro d
  induction d with
  | zero => exact fun n deep h1 h2 => any_step n ws hl hw hwb hnd deep h1 fun h => absurd h (by omega)
  | succ d ih =>
    intro n deep h1 h2
    exact any_step (n + d + 1) ws hl hw hwb hnd deep h1 fun h => ih n (deep - 1) (by omega) (by omega)
theorem range_zip (ws L : List Str) (h : ws.length ≤ L.length) : (List.range ws.length).map (fun j => pr1 (ws.getD j "") (L.getD j "")) = List.zipWith pr1 ws L := by
  refine List.ext_getElem ?_ ?_
  · rw [List.length_map, List.length_range, List.length_zipWith]; omega
  · intro i h1 h2
    have hi : i < ws.length := by simpa using h1
    rw [List.getElem_map, List.getElem_range, List.getElem_zipWith]
    rw [List.getD_eq_getElem?_getD, List.getElem?_eq_getElem hi, List.getD_eq_getElem?_getD, List.getElem?_eq_getElem (show i < L.length by omega)]
    rfl
theorem prs_at (ws : List Str) (Y : List D) (hy : Y.length = ws.length) (j : Nat) (hj : j < ws.length) : atI (prs ws Y) (j : Int) = some (.tup [.str (ws.getD j ""), Y.getD j .non]) := by
  rw [← range_prs ws Y ws.length rfl hy]
  refine atI_ok (by omega) ?_
  rw [Int.toNat_natCast, List.getElem?_map, List.getElem?_range hj]
  rfl
theorem strsI_at (L : List Str) (j : Nat) (hj : j < L.length) : atI (L.map D.str) (j : Int) = some (.str (L.getD j "")) := by
  refine atI_ok (by omega) ?_
  rw [Int.toNat_natCast, List.getElem?_map, List.getElem?_eq_getElem hj, List.getD_eq_getElem?_getD, List.getElem?_eq_getElem hj]
  rfl
theorem jlenS (Z : List Str) : lsm Z ≤ (Txt.join " " Z).length + 1 := by
  have e : tl (Txt.join " " Z) = TL.joinL [32] (Z.map tl) := by
    have e2 : tl (" " : Str) = [32] := by decide +kernel
    have : tl (Txt.join " " Z) = TL.joinL (tl (" " : Str)) (Z.map tl) := by rw [TL.join_eq]; exact TL.tl_join _ _
    rw [this, e2]
  rw [tl_len, e]
  have key : ∀ Z : List Str, lsm Z ≤ (TL.joinL [32] (Z.map tl)).length + 1 := by
    intro Z
    induction Z with
    | nil => exact Nat.zero_le _
    | cons a Z ih =>
      cases Z with
      | nil => rw [lsm_c, lsm_n, tl_len]; simp [TL.joinL]
      | cons b Z =>
        have e : TL.joinL [32] ((a :: b :: Z).map tl) = tl a ++ ([32] ++ TL.joinL [32] ((b :: Z).map tl)) := by simp [TL.joinL]
        rw [e, List.length_append, List.length_append, lsm_c, tl_len]
        show _ ≤ _ + (1 + _) + 1
        omega
  exact key Z
theorem lsh_list (N : Nat) (k : Kd) (xs : List Tr) (hl : xs.length ≤ 1000) (hp : den N "_law_parts" [.d (Tr.nd k xs).d] = .ok (.lst (Tr.ds xs)) [some (.d (Tr.nd k xs).d)])
    (h : ∀ x ∈ xs, den N "_law_shown" [.d x.d] = .ok (.d (.str x.sh)) [some (.d x.d)]) (a1 a2 a4 a5 : Option M) :
    mLc [3] (iSeq (eM (mCall (den N "_law_parts") (aCons (eN 0) aNil)))) (gN 3) tTrue (eM (mCall (den N "_law_shown") (aCons (eN 3) aNil))) [some (.d (Tr.nd k xs).d), a1, a2, none, a4, a5] =
      .ok (.lst ((Tr.shs xs).map .str)) [some (.d (Tr.nd k xs).d), a1, a2, none, a4, a5] := by
  obtain ⟨td, htd⟩ : ∃ td, td = (Tr.nd k xs).d := ⟨_, rfl⟩
  rw [← htd] at hp ⊢
  have e2 := mLc_ts (own := [3]) (fi := iSeq (eM (mCall (den N "_law_parts") (aCons (eN 0) aNil)))) (g := gN 3) (fe := eM (mCall (den N "_law_shown") (aCons (eN 3) aNil))) (S := [some (.d td), a1, a2, none, a4, a5]) (S1 := [some (.d td), a1, a2, none, a4, a5]) (ts := xs) Tr.d (fun x => .str x.sh) (by
    simp -dsimp [hp, ds_map]) (by
    intro x hx
    have := h x hx
    refine ⟨[some (.d td), a1, a2, some (.d x.d), a4, a5], rfl, ?_⟩
    simp -dsimp [this, wipeS]) (by show _ ≤ 16777216; omega)
  rw [e2, shs_map, List.map_map]
  rfl
theorem lshown_eq : ∀ (c n : Nat) (t : Tr), t.ok → t.wk → t.dep ≤ c → t.sz ≤ 1000 → den (n + 1 + c) "_law_shown" [.d t.d] = .ok (.d (.str t.sh)) [some (.d t.d)]
  | 0, n, .nd k xs, _, _, hd, _ => absurd (show Tr.deps xs + 1 ≤ 0 from hd) (by omega)
  | c + 1, n, .nd k xs, ho, hw, hd, hs => by
    have hds : Tr.deps xs ≤ c := Nat.le_of_succ_le_succ (show Tr.deps xs + 1 ≤ c + 1 from hd)
    have szs : Tr.szs xs + 1 ≤ 1000 := hs
    have xl : xs.length ≤ 1000 := by have := len_szs xs; omega
    have ln := shs_len xs
    have ih : ∀ x ∈ xs, den (n + 1 + c) "_law_shown" [.d x.d] = .ok (.d (.str x.sh)) [some (.d x.d)] := fun x hx => lshown_eq c n x (oks_mem ho.2 x hx) (wks_mem hw.2 x hx) (deps_mem hds x hx) (by
      obtain ⟨p, q, rfl⟩ := List.append_of_mem hx
      rw [szs_app] at szs
      have szs : Tr.szs p + (x.sz + Tr.szs q) + 1 ≤ 1000 := szs
      omega)
    have hwk : k.wk := hw.1
    have ha : k.ar xs.length := ho.1
    rw [show n + 1 + (c + 1) = n + 1 + c + 1 by omega]
    have e0 : ixD (Tr.nd k xs).d (.int 0) = some (.d (.str k.nm)) := mk_0 k (Tr.ds xs)
    refine eq_of_wp ?_
    rw [den__law_shown]
    refine run_wp rfl ?_
    unfold b__law_shown
    by_cases hb : k.bare = true
    · cases k with
      | num i =>
        have hi : 0 ≤ i ∧ i ≤ 1000000000 := hwk
        have e : (Tr.nd (.num i) xs).d = .tup [.str "number", .int i] := rfl
        have es : (Tr.nd (.num i) xs).sh = Ev.num i := rfl
        rw [e, es]
        simp -dsimp [List.replicate, inD_t2, show -18446744073709551616 < i ∧ i < 18446744073709551616 by omega]
      | tru b =>
        have e : (Tr.nd (.tru b) xs).d = .tup [.str "truth", .bl b] := rfl
        have es : (Tr.nd (.tru b) xs).sh = (if b = true then ("yes" : Str) else "no") := rfl
        rw [e, es]
        cases b <;> simp -dsimp [List.replicate, inD_t2]
      | nam w =>
        have e : (Tr.nd (.nam w) xs).d = .tup [.str "name", .str w] := rfl
        have es : (Tr.nd (.nam w) xs).sh = w := rfl
        rw [e, es]
        simp -dsimp [List.replicate, inD_t2]
      | _ => exact absurd hb Bool.noConfusion
    · have hb : k.bare = false := by simpa using hb
      have hp : den (n + 1 + c) "_law_parts" [.d (Tr.nd k xs).d] = .ok (.lst (Tr.ds xs)) [some (.d (Tr.nd k xs).d)] := by
        rw [show n + 1 + c = n + c + 1 by omega]
        exact lparts_eq (n + c) k xs ho hw hs hb
      have ll := fun a1 a2 a4 a5 => lsh_list (n + 1 + c) k xs xl hp ih a1 a2 a4 a5
      have sl := sh_len (.nd k xs) ho hw
      have es : (Tr.nd k xs).sh = bk (k.sp (Tr.shs xs)) := by
        cases k <;> first | rfl | exact absurd hb Bool.noConfusion
      have l1 : ("(" : Str).length = 1 := by decide +kernel
      have l3 : (")" : Str).length = 1 := by decide +kernel
      have lj : (Txt.join " " (k.sp (Tr.shs xs))).length + 2 ≤ 1000000 := by
        have e : (bk (k.sp (Tr.shs xs))).length = (Txt.join " " (k.sp (Tr.shs xs))).length + 2 := by
          unfold bk
          rw [len_app, len_app, l1, l3]; omega
        rw [es] at sl
        have : (Tr.nd k xs).sz ≤ 1000 := hs
        omega
      have jn := joinD_sp (k.sp (Tr.shs xs)) (by have := jlenS (k.sp (Tr.shs xs)); omega)
      rw [es]
      have l4 : 1 + (Txt.join " " (k.sp (Tr.shs xs))).length ≤ 16777216 := by omega
      have l5 : 1 + (Txt.join " " (k.sp (Tr.shs xs))).length + 1 ≤ 16777216 := by omega
      unfold bk
      obtain ⟨J, hJ⟩ : ∃ J, J = Txt.join " " (k.sp (Tr.shs xs)) := ⟨_, rfl⟩
      rw [← hJ] at jn l4 l5 ⊢
      clear hJ lj
      cases k with
      | num i => exact absurd hb Bool.noConfusion
      | tru b => exact absurd hb Bool.noConfusion
      | nam w => exact absurd hb Bool.noConfusion
      | rai w =>
        have hx : xs = [] := by cases xs with | nil => rfl | cons a b => exact absurd ha (by simp [Kd.ar])
        subst hx
        have e : (Tr.nd (.rai w) []).d = .tup [.str "raise", .str w] := rfl
        have jn : joinD " " (.lst [.str "raise", .str w]) = some (.str J) := jn
        rw [show (Tr.shs []).map D.str = [] from rfl] at ll
        rw [e] at ll ⊢
        simp -dsimp [List.replicate, inD_t2, ll, jn, l1, l3, l4, l5]
        first | done | rfl
      | do_ w =>
        obtain ⟨a, b, rfl⟩ := len2 ha
        have e : (Tr.nd (.do_ w) [a, b]).d = .tup [.str "do", .str w, a.d, b.d] := rfl
        have jn : joinD " " (.lst [.str w, .str a.sh, .str b.sh]) = some (.str J) := jn
        rw [show (Tr.shs [a, b]).map D.str = [.str a.sh, .str b.sh] from rfl] at ll
        rw [e] at ll ⊢
        simp -dsimp [List.replicate, inD_t2, ll, jn, l1, l3, l4, l5]
        first | done | rfl
      | let_ w =>
        obtain ⟨a, b, rfl⟩ := len2 ha
        have e : (Tr.nd (.let_ w) [a, b]).d = .tup [.str "let", .str w, a.d, b.d] := rfl
        have jn : joinD " " (.lst [.str "let", .str w, .str a.sh, .str b.sh]) = some (.str J) := jn
        rw [show (Tr.shs [a, b]).map D.str = [.str a.sh, .str b.sh] from rfl] at ll
        rw [e] at ll ⊢
        simp -dsimp [List.replicate, inD_t2, ll, jn, l1, l3, l4, l5]
        first | done | rfl
      | try_ w =>
        obtain ⟨a, b, rfl⟩ := len2 ha
        have e : (Tr.nd (.try_ w) [a, b]).d = .tup [.str "try", a.d, .str w, b.d] := rfl
        have jn : joinD " " (.lst [.str "try", .str a.sh, .str w, .str b.sh]) = some (.str J) := jn
        rw [show (Tr.shs [a, b]).map D.str = [.str a.sh, .str b.sh] from rfl] at ll
        rw [e] at ll ⊢
        simp -dsimp [List.replicate, inD_t2, ll, jn, l1, l3, l4, l5]
        first | done | rfl
      | loop w v =>
        obtain ⟨a, b, c, rfl⟩ := len3 ha
        have e : (Tr.nd (.loop w v) [a, b, c]).d = .tup [.str "loop", .str w, a.d, .str v, b.d, c.d] := rfl
        have jn : joinD " " (.lst [.str "loop", .str w, .str a.sh, .str v, .str b.sh, .str c.sh]) = some (.str J) := jn
        rw [show (Tr.shs [a, b, c]).map D.str = [.str a.sh, .str b.sh, .str c.sh] from rfl] at ll
        rw [e] at ll ⊢
        simp -dsimp [List.replicate, inD_t2, ll, jn, l1, l3, l4, l5]
        first | done | rfl
      | pick i =>
        obtain ⟨a, rfl⟩ := len1 ha
        have hi : 0 ≤ i ∧ i ≤ 1000000000 := hwk
        have e : (Tr.nd (.pick i) [a]).d = .tup [.str "pick", .int i, a.d] := rfl
        have jn : joinD " " (.lst [.str "pick", .str (Ev.num i), .str a.sh]) = some (.str J) := jn
        rw [show (Tr.shs [a]).map D.str = [.str a.sh] from rfl] at ll
        rw [e] at ll ⊢
        simp -dsimp [List.replicate, inD_t2, ll, jn, l1, l3, l4, l5, show -18446744073709551616 < i ∧ i < 18446744073709551616 by omega]
        first | done | rfl
      | mark i =>
        obtain ⟨a, rfl⟩ := len1 ha
        have hi : 0 ≤ i ∧ i ≤ 1000000000 := hwk
        have e : (Tr.nd (.mark i) [a]).d = .tup [.str "mark", .int i, a.d] := rfl
        have jn : joinD " " (.lst [.str "mark", .str (Ev.num i), .str a.sh]) = some (.str J) := jn
        rw [show (Tr.shs [a]).map D.str = [.str a.sh] from rfl] at ll
        rw [e] at ll ⊢
        simp -dsimp [List.replicate, inD_t2, ll, jn, l1, l3, l4, l5, show -18446744073709551616 < i ∧ i < 18446744073709551616 by omega]
        first | done | rfl
      | many =>
        obtain ⟨a, rfl⟩ := len1 ha
        have e : (Tr.nd .many [a]).d = .tup [.str "many", a.d] := rfl
        have jn : joinD " " (.lst [.str "many", .str a.sh]) = some (.str J) := jn
        rw [show (Tr.shs [a]).map D.str = [.str a.sh] from rfl] at ll
        rw [e] at ll ⊢
        simp -dsimp [List.replicate, inD_t2, ll, jn, l1, l3, l4, l5]
        first | done | rfl
      | iff =>
        obtain ⟨a, b, c, rfl⟩ := len3 ha
        have e : (Tr.nd .iff [a, b, c]).d = .tup [.str "if", a.d, b.d, c.d] := rfl
        have jn : joinD " " (.lst [.str "if", .str a.sh, .str b.sh, .str c.sh]) = some (.str J) := jn
        rw [show (Tr.shs [a, b, c]).map D.str = [.str a.sh, .str b.sh, .str c.sh] from rfl] at ll
        rw [e] at ll ⊢
        simp -dsimp [List.replicate, inD_t2, ll, jn, l1, l3, l4, l5]
        first | done | rfl
      | parts =>
        have e : (Tr.nd .parts xs).d = .tup [.str "parts", .tup (Tr.ds xs)] := rfl
        have jn : joinD " " (.lst (.str "parts" :: (Tr.shs xs).map .str)) = some (.str J) := jn
        have sl : ((Tr.shs xs).map D.str).length ≤ 1000 := by rw [List.length_map, ln]; exact xl
        obtain ⟨Z, hZ⟩ : ∃ Z, Z = (Tr.shs xs).map D.str := ⟨_, rfl⟩
        rw [← hZ] at ll jn sl
        rw [e] at ll ⊢
        simp -dsimp [List.replicate, inD_t2, ll, jn, l1, l3, l4, l5, show 1 + Z.length ≤ 16777216 by omega]
        first | done | rfl
      | call w =>
        have e : (Tr.nd (.call w) xs).d = .tup [.str "call", .str w, .tup (Tr.ds xs)] := rfl
        have jn : joinD " " (.lst (.str w :: (Tr.shs xs).map .str)) = some (.str J) := jn
        have sl : ((Tr.shs xs).map D.str).length ≤ 1000 := by rw [List.length_map, ln]; exact xl
        obtain ⟨Z, hZ⟩ : ∃ Z, Z = (Tr.shs xs).map D.str := ⟨_, rfl⟩
        rw [← hZ] at ll jn sl
        rw [e] at ll ⊢
        simp -dsimp [List.replicate, inD_t2, ll, jn, l1, l3, l4, l5, show 1 + Z.length ≤ 16777216 by omega]
        first | done | rfl
      | melt w ws =>
        obtain ⟨h1, h2⟩ : xs.length = ws.length + 1 ∧ ws.length ≤ 1000 := ha
        obtain ⟨ys, l, rfl, hy⟩ := snoc_of h1
        have e : (Tr.nd (.melt w ws) (ys ++ [l])).d = .tup [.str "melt", .str w, .tup (prs ws (Tr.ds ys)), l.d] := by
          show (Kd.melt w ws).mk (Tr.ds (ys ++ [l])) = _
          rw [ds_app]
          exact mk_melt (by rw [ds_len]; exact hy)
        have pa := prs_at ws (Tr.ds ys) (by rw [ds_len]; exact hy)
        have pl : (prs ws (Tr.ds ys)).length = ws.length := by
          rw [← range_prs ws (Tr.ds ys) ws.length rfl (by rw [ds_len]; exact hy), List.length_map, List.length_range]
        obtain ⟨L, hL⟩ : ∃ L, L = Tr.shs (ys ++ [l]) := ⟨_, rfl⟩
        have lsm1 := shs_lsm (ys ++ [l]) ho.2 hw.2
        have zl := zip_lsm ws (Tr.shs (ys ++ [l])) fun v hv => (hwk.2 v hv).2
        have wl : ∀ j : Nat, j < ws.length → (ws.getD j "").length ≤ 12 := fun j hj => by
          rw [List.getD_eq_getElem?_getD, List.getElem?_eq_getElem hj]
          exact (hwk.2 _ (List.getElem_mem hj)).2
        have sz2 : 80 * Tr.szs (ys ++ [l]) ≤ 80000 := by omega
        have bl := bk_len (List.zipWith pr1 ws (Tr.shs (ys ++ [l])))
        rw [← hL] at ll lsm1 zl bl ln jn
        have Ll : L.length = ws.length + 1 := by rw [ln]; exact h1
        have lll : ∀ j : Nat, j < L.length → (L.getD j "").length ≤ 1000000 := by
          intro j hj
          have := lsm_ge L (L.getD j "") (by rw [List.getD_eq_getElem?_getD, List.getElem?_eq_getElem hj]; exact List.getElem_mem hj)
          omega
        have jn : joinD " " (.lst [.str "melt", .str w, .str (bk (List.zipWith pr1 ws L)), .str (L.getD ws.length "")]) = some (.str J) := jn
        have jz := joinD_sp (List.zipWith pr1 ws L) (by omega)
        have rz := range_zip ws L (by omega)
        have sa := strsI_at L
        have la : (L.map D.str).getLast? = some (.str (L.getD ws.length "")) := by
          have hn : L.map D.str ≠ [] := fun hh => by
            have := congrArg List.length hh
            rw [List.length_map, Ll] at this
            simp at this
          rw [List.getLast?_eq_getElem?, List.length_map, Ll, Nat.add_sub_cancel, List.getElem?_map, List.getElem?_eq_getElem (show ws.length < L.length by omega), List.getD_eq_getElem?_getD, List.getElem?_eq_getElem (show ws.length < L.length by omega)]
          rfl
        rw [e] at ll ⊢
        obtain ⟨P, hP⟩ : ∃ P, P = prs ws (Tr.ds ys) := ⟨_, rfl⟩
        rw [← hP] at ll pa pl ⊢
        obtain ⟨K, hK⟩ : ∃ K, K = L.map D.str := ⟨_, rfl⟩
        rw [← hK] at ll la sa
        have lc : mLc [5] (iRng1 (eM (mBlt (on1 lenD) (aCons (eM (mBin ixD (eN 0) (eC (.int 2)))) aNil)))) (gN 5) tTrue (eM (mBin addD (eM (mBin addD (eM (mBin addD (eM (mBin addD (eC (.str "(")) (eM (mBin ixD (eM (mBin ixD (eM (mBin ixD (eN 0) (eC (.int 2)))) (eN 5))) (eC (.int 0)))))) (eC (.str " ")))) (eM (mBin ixD (eN 2) (eN 5))))) (eC (.str ")")))) [some (.d (.tup [.str "melt", .str w, .tup P, l.d])), some (.d (.str "melt")), some (.lst K), none, none, none] =
            .ok (.lst ((List.zipWith pr1 ws L).map .str)) [some (.d (.tup [.str "melt", .str w, .tup P, l.d])), some (.d (.str "melt")), some (.lst K), none, none, none] := by
          have e2 := mLc_ts (own := [5]) (fi := iRng1 (eM (mBlt (on1 lenD) (aCons (eM (mBin ixD (eN 0) (eC (.int 2)))) aNil)))) (g := gN 5) (fe := eM (mBin addD (eM (mBin addD (eM (mBin addD (eM (mBin addD (eC (.str "(")) (eM (mBin ixD (eM (mBin ixD (eM (mBin ixD (eN 0) (eC (.int 2)))) (eN 5))) (eC (.int 0)))))) (eC (.str " ")))) (eM (mBin ixD (eN 2) (eN 5))))) (eC (.str ")")))) (S := [some (.d (.tup [.str "melt", .str w, .tup P, l.d])), some (.d (.str "melt")), some (.lst K), none, none, none]) (S1 := [some (.d (.tup [.str "melt", .str w, .tup P, l.d])), some (.d (.str "melt")), some (.lst K), none, none, none]) (ts := List.range ws.length) (fun j : Nat => D.int (j : Int)) (fun j => .str (pr1 (ws.getD j "") (L.getD j ""))) (by
            simp -dsimp [pl, show -4611686018427387904 ≤ (ws.length : Int) ∧ (ws.length : Int) < 4611686018427387904 by omega]
            unfold rangeD
            simp) (by
            intro j hj
            have hj : j < ws.length := List.mem_range.mp hj
            have pj := pa j hj
            have sj := sa j (by omega)
            have wj := wl j hj
            have lj := lll j (by omega)
            have l2 : (" " : Str).length = 1 := by decide +kernel
            refine ⟨[some (.d (.tup [.str "melt", .str w, .tup P, l.d])), some (.d (.str "melt")), some (.lst K), none, none, some (.d (.int (j : Int)))], rfl, ?_⟩
            obtain ⟨v, hv⟩ : ∃ v, v = ws.getD j "" := ⟨_, rfl⟩
            obtain ⟨a, hha⟩ : ∃ v, v = L.getD j "" := ⟨_, rfl⟩
            obtain ⟨y, hhy⟩ : ∃ v, v = (Tr.ds ys).getD j .non := ⟨_, rfl⟩
            rw [← hv, ← hhy] at pj
            rw [← hv] at wj
            rw [← hha] at sj lj
            rw [← hv, ← hha]
            simp -dsimp [wipeS, pj, sj, l1, l2, l3, show 1 + v.length ≤ 16777216 by omega, show 1 + v.length + 1 ≤ 16777216 by omega, show 1 + v.length + 1 + a.length ≤ 16777216 by omega, show 1 + v.length + 1 + a.length + 1 ≤ 16777216 by omega]
            exact ⟨_, ⟨rfl, rfl⟩, rfl⟩) (by rw [List.length_range]; show _ ≤ 16777216; omega)
          rw [e2, ← rz, List.map_map]
          rfl
        obtain ⟨Q, hQ⟩ : ∃ Q, Q = (List.zipWith pr1 ws L).map D.str := ⟨_, rfl⟩
        rw [← hQ] at lc jz
        have bkl : (bk (List.zipWith pr1 ws L)).length = (Txt.join " " (List.zipWith pr1 ws L)).length + 2 := by
          unfold bk
          rw [len_app, len_app, l1, l3]; omega
        unfold bk at jn
        obtain ⟨G, hG⟩ : ∃ G, G = L.getD ws.length "" := ⟨_, rfl⟩
        rw [← hG] at la jn
        simp -dsimp [List.replicate, inD_t2, ll, lc, jz, la, jn, l1, l3, l4, l5, show 1 + (Txt.join " " (List.zipWith pr1 ws L)).length ≤ 16777216 by omega, show 1 + (Txt.join " " (List.zipWith pr1 ws L)).length + 1 ≤ 16777216 by omega]
        first | done | rfl
/-! the words that are read -/
theorem fr_words : (["words", "read"] : List Str).findIdx? (fun y => y == ("words" : Str)) = some 0 := by decide +kernel
theorem fr_read : (["words", "read"] : List Str).findIdx? (fun y => y == ("read" : Str)) = some 1 := by decide +kernel
noncomputable def rdO (W : List Str) (r : Nat) : M := .ob "Reading" ["words", "read"] [.d (.lst (W.map .str)), .d (.int (r : Int))]
theorem rdn : (¬ ("taken" : Str) = "words" ∧ ¬ ("taken" : Str) = "read") ∧ (¬ ("ahead" : Str) = "words" ∧ ¬ ("ahead" : Str) = "read") ∧ (¬ ("need" : Str) = "words" ∧ ¬ ("need" : Str) = "read") := by decide +kernel
/-- from word r on these words come -/
noncomputable def At (W : List Str) (r : Nat) (ts : List (List Nat)) : Prop := ∃ rest, (W.drop r).map tl = ts ++ rest
theorem At.app1 {W : List Str} {r : Nat} {ts us : List (List Nat)} (h : At W r (ts ++ us)) : At W r ts := by
  obtain ⟨rest, h⟩ := h
  exact ⟨us ++ rest, by rw [h, List.append_assoc]⟩
theorem At.app2 {W : List Str} {r : Nat} {ts us : List (List Nat)} (h : At W r (ts ++ us)) : At W (r + ts.length) us := by
  obtain ⟨rest, h⟩ := h
  refine ⟨rest, ?_⟩
  rw [← List.drop_drop, List.map_drop, h, List.append_assoc, List.drop_left]
theorem At.one {W : List Str} {r : Nat} {a : List Nat} {us : List (List Nat)} (h : At W r (a :: us)) : At W r [a] := At.app1 (us := us) h
theorem At.tail {W : List Str} {r : Nat} {a : List Nat} {us : List (List Nat)} (h : At W r (a :: us)) : At W (r + 1) us := At.app2 (ts := [a]) h
theorem At.get {W : List Str} {r : Nat} {w : Str} {us : List (List Nat)} (h : At W r (tl w :: us)) : r < W.length ∧ W[r]? = some w := by
  obtain ⟨rest, h⟩ := h
  have e : ((W.drop r).map tl)[0]? = some (tl w) := by rw [h]; rfl
  rw [List.getElem?_map, List.getElem?_drop, Nat.add_zero] at e
  cases hc : W[r]? with
  | none => rw [hc] at e; cases e
  | some v =>
    rw [hc] at e
    have e : some (tl v) = some (tl w) := e
    injection e with e
    have : v = w := tl_ext e
    rw [this]
    obtain ⟨h1, _⟩ := List.getElem?_eq_some_iff.mp hc
    exact ⟨h1, rfl⟩
theorem ahead_eq (n : Nat) (W : List Str) (r : Nat) (w : Str) {us : List (List Nat)} (h : At W r (tl w :: us)) (hl : W.length ≤ 1000000) : den (n + 1) "Reading.ahead" [rdO W r] = .ok (.d (.str w)) [some (rdO W r)] := by
  obtain ⟨h1, h2⟩ := h.get
  refine eq_of_wp ?_
  rw [den_Reading__ahead]
  refine run_wp rfl ?_
  unfold b_Reading__ahead rdO
  have ai : atI (W.map D.str) (r : Int) = some (.str w) := atI_ok (by omega) (by rw [Int.toNat_natCast, List.getElem?_map, h2]; rfl)
  have ll : (W.map D.str).length = W.length := List.length_map ..
  obtain ⟨L, hL⟩ : ∃ L, L = W.map D.str := ⟨_, rfl⟩
  rw [← hL] at ai ll ⊢
  obtain ⟨q, hq⟩ : ∃ q : Int, q = (r : Int) := ⟨_, rfl⟩
  rw [← hq] at ai ⊢
  simp -dsimp [List.replicate, fr_words, fr_read, ll, ai, show W.length ≤ 16777216 by omega, show ¬ q = (W.length : Int) by omega]
theorem taken_eq (n : Nat) (W : List Str) (r : Nat) (w : Str) {us : List (List Nat)} (h : At W r (tl w :: us)) (hl : W.length ≤ 1000000) : den (n + 1) "Reading.taken" [rdO W r] = .ok (.d (.str w)) [some (rdO W (r + 1))] := by
  obtain ⟨h1, h2⟩ := h.get
  refine eq_of_wp ?_
  rw [den_Reading__taken]
  refine run_wp rfl ?_
  unfold b_Reading__taken rdO
  have ai : atI (W.map D.str) (r : Int) = some (.str w) := atI_ok (by omega) (by rw [Int.toNat_natCast, List.getElem?_map, h2]; rfl)
  have ll : (W.map D.str).length = W.length := List.length_map ..
  obtain ⟨L, hL⟩ : ∃ L, L = W.map D.str := ⟨_, rfl⟩
  rw [← hL] at ai ll ⊢
  rw [Int.natCast_add]
  have hq0 : (0 : Int) ≤ (r : Int) ∧ (r : Int) ≤ 1000000 := by omega
  obtain ⟨q, hq⟩ : ∃ q : Int, q = (r : Int) := ⟨_, rfl⟩
  rw [← hq] at ai hq0 ⊢
  simp -dsimp [List.replicate, fr_words, fr_read, ll, ai, show W.length ≤ 16777216 by omega, show ¬ q = (W.length : Int) by omega, show q + 1 - 1 = q by omega]
theorem need_eq (n : Nat) (W : List Str) (r : Nat) (w : Str) {us : List (List Nat)} (h : At W r (tl w :: us)) (hl : W.length ≤ 1000000) : den (n + 2) "Reading.need" [rdO W r, .d (.str w)] = .ok (.d .non) [some (rdO W (r + 1)), some (.d (.str w))] := by
  have t := taken_eq n W r w h hl
  refine eq_of_wp ?_
  rw [den_Reading__need]
  refine run_wp rfl ?_
  unfold b_Reading__need
  have e : ∀ r, rdO W r = .ob "Reading" ["words", "read"] [.d (.lst (W.map .str)), .d (.int (r : Int))] := fun _ => rfl
  rw [e, e] at t
  rw [e, e]
  simp -dsimp [List.replicate, t, rdn]
theorem number_eq (n : Nat) (i : Int) (h : 0 ≤ i ∧ i ≤ 1000000000) : den (n + 1) "number_in" [.d (.str (num i))] = .ok (.d (.int i)) [some (.d (.str (num i)))] := by
  have l10 := num_10 h
  have hd := num_d h.1
  have h0 := num_ne0 h.1
  have hi : PySem.intText? (num i) = some i := by
    obtain ⟨k, rfl⟩ := Int.eq_ofNat_of_zero_le h.1
    refine TL.int_num ?_
    have : (num (k : Int)).length = (TL.numL k).length := by
      rw [tl_len]
      unfold num
      rw [show tl (Str.ofString (toString (k : Int))) = TL.numL k from TL.tl_num k]
    omega
  refine eq_of_wp ?_
  rw [den_number_in]
  refine run_wp rfl ?_
  unfold b_number_in
  obtain ⟨x, hx⟩ : ∃ x, x = num i := ⟨_, rfl⟩
  rw [← hx] at l10 hd h0 hi ⊢
  have hne : (x == "") = false := by rw [str_beq, tl_e]; exact decide_eq_false h0
  have lc : mLc [1] (iSeq (eN 0)) (gN 1) tTrue (eM (mBin inD (eN 1) (eC c_FIGURES))) [some (.d (.str x)), none] = .ok (.lst (((tl x).map fun _ => true).map .bl)) [some (.d (.str x)), none] := by
    have e2 := mLc_mapP (own := [1]) (fi := iSeq (eN 0)) (g := gN 1) (fe := eM (mBin inD (eN 1) (eC c_FIGURES)))
      (S := [some (.d (.str x)), none]) (S1 := [some (.d (.str x)), none]) (ds := strSeq x) (fun _ => .bl true) (by simp -dsimp) (by
        intro d hdd
        unfold strSeq at hdd
        simp only [List.mem_map] at hdd
        obtain ⟨c, hc, rfl⟩ := hdd
        have hc : c ∈ tl x := hc
        have := hd c hc
        have f : isFi c = true := by rw [isFi_iff]; exact decide_eq_true this
        have f : c ∈ FG10 := by unfold isFi at f; simpa using f
        refine ⟨_, rfl, ?_⟩
        simp -dsimp [wipeS, c_FIGURES, inD_one, tl_FG, f]) (by unfold strSeq; rw [List.length_map, Array.length_toList]; show x.length ≤ _; simp; omega)
    rw [e2]
    have : (strSeq x).map (fun _ => D.bl true) = ((tl x).map fun _ => true).map .bl := by
      show ((tl x).map fun c => D.str ⟨#[c]⟩).map _ = _
      rw [List.map_map, List.map_map]
      rfl
    rw [this]
    rfl
  have key : ((tl x).map fun _ => true).all id = true := by rw [List.all_map]; simp
  simp -dsimp [-List.map_map, -List.all_map, List.replicate, hne, c_MOST_FIGURES_reader, show x.length ≤ 16777216 by omega, show ¬ (10 : Int) < (x.length : Int) by omega, lc, allD_bls, key, hi, show x.length ≤ 640 by omega]
/-! trees in a row, read -/
theorem sg_nw : ∀ s ∈ SG, wordB s = false := by decide +kernel
theorem tk_hd (t : Tr) (ho : t.ok) (hw : t.wk) (ht : t.tk) : ∃ (a : Str) (us : List (List Nat)), t.tkn = tl a :: us ∧ (a == (")" : Str)) = false := by
  obtain ⟨k, xs⟩ := t
  have e41 : tl (")" : Str) = [41] := by decide +kernel
  have e40 : tl ("(" : Str) = [40] := by decide +kernel
  have nb : ∀ w : Str, Wc (tl w) → (w == (")" : Str)) = false := fun w hw => by
    rw [str_beq, e41]
    refine decide_eq_false fun e => ?_
    exact (hw.2 41 (by rw [e]; simp)).2.2 rfl
  have hk : k.wk := hw.1
  have htk : k.tk xs.length := ht.1
  by_cases hb : k.bare = true
  · cases k with
    | num i => exact ⟨num i, [], rfl, nb _ (wc_num hk.1)⟩
    | tru b =>
      cases b
      · exact ⟨"no", [], rfl, by decide +kernel⟩
      · exact ⟨"yes", [], rfl, by decide +kernel⟩
    | nam w => exact ⟨w, [], rfl, nb _ (wc_word htk)⟩
    | _ => exact absurd hb Bool.noConfusion
  · have hb : k.bare = false := by simpa using hb
    have e : (Tr.nd k xs).tkn = [40] :: (k.tp (Tr.tkns xs) ++ [[41]]) := by
      cases k <;> first | rfl | exact absurd hb Bool.noConfusion
    exact ⟨"(", _, by rw [e, e40], by decide +kernel⟩
theorem tkns_app (a b : List Tr) : Tr.tkns (a ++ b) = Tr.tkns a ++ Tr.tkns b := by rw [tkns_map, tkns_map, tkns_map, List.map_append]
/-- what is asked of read_one here -/
noncomputable def RdX (N : Nat) (W : List Str) (deep : D) (x : Tr) : Prop := ∀ r us, At W r (x.tkn ++ us) → den N "read_one" [rdO W r, .d deep] = .ok (.d x.d) [some (rdO W (r + x.tkn.length)), some (.d deep)]
theorem some_eq (N : Nat) (W : List Str) (deep : D) (hW : W.length ≤ 1000000) (xs : List Tr) (ho : Tr.oks xs) (hw : Tr.wks xs) (ht : Tr.tks xs) (hl : xs.length ≤ 1000) (hx : ∀ x ∈ xs, RdX (N + 1) W deep x) (r : Nat) (us : List (List Nat))
    (h : At W r ((Tr.tkns xs).flatten ++ [41] :: us)) : den (N + 2) "read_some" [rdO W r, .d deep] = .ok (.d (.tup (Tr.ds xs))) [some (rdO W (r + (Tr.tkns xs).flatten.length)), some (.d deep)] := by
  have e41 : tl (")" : Str) = [41] := by decide +kernel
  refine eq_of_wp ?_
  rw [den_read_some]
  refine run_wp rfl ?_
  unfold b_read_some
  obtain ⟨L, hL⟩ : ∃ L, L = D.lst (W.map .str) := ⟨_, rfl⟩
  have eO : ∀ r, rdO W r = .ob "Reading" ["words", "read"] [.d L, .d (.int (r : Int))] := fun r => by rw [hL]; rfl
  obtain ⟨q, hq⟩ : ∃ q : D, q = .int (r : Int) := ⟨_, rfl⟩
  have er := eO r
  rw [← hq] at er
  rw [er]
  simp -dsimp [List.replicate]
  obtain ⟨I, hI⟩ : ∃ I : Nat → SS → Prop, I = fun m S => ∃ (ys zs : List Tr), xs = ys ++ zs ∧ m = zs.length ∧ S = [some (.ob "Reading" ["words", "read"] [.d L, .d (.int ((r + (Tr.tkns ys).flatten.length : Nat) : Int))]), some (.d deep), some (.lst (Tr.ds ys))] := ⟨_, rfl⟩
  refine wp_while I ?_ xs.length _ (by rw [hI]; exact ⟨[], xs, rfl, rfl, by rw [hq]; rfl⟩)
  intro m S hS
  rw [hI] at hS
  obtain ⟨ys, zs, hxs, rfl, rfl⟩ := hS
  have hA : At W (r + (Tr.tkns ys).flatten.length) ((Tr.tkns zs).flatten ++ [41] :: us) := by
    rw [hxs, tkns_app, List.flatten_append, List.append_assoc] at h
    exact h.app2
  cases zs with
  | nil =>
    have hA : At W (r + (Tr.tkns ys).flatten.length) (tl (")" : Str) :: us) := by rw [e41]; exact hA
    have a := ahead_eq N W _ ")" hA hW
    rw [List.append_nil] at hxs
    subst hxs
    rw [eO] at a ⊢
    have yl : (Tr.ds xs).length ≤ 16777216 := by rw [ds_len]; omega
    obtain ⟨q2, hq2⟩ : ∃ q : D, q = .int ((r + (Tr.tkns xs).flatten.length : Nat) : Int) := ⟨_, rfl⟩
    rw [← hq2] at a ⊢
    obtain ⟨Y, hY⟩ : ∃ Y, Y = Tr.ds xs := ⟨_, rfl⟩
    rw [← hY] at yl ⊢
    simp -dsimp [a, rdn, yl]
  | cons z zs =>
    have hz : z ∈ xs := by rw [hxs]; simp
    obtain ⟨a, us2, ea, na⟩ := tk_hd z (oks_mem ho z hz) (wks_mem hw z hz) (tks_mem ht z hz)
    have hA : At W (r + (Tr.tkns ys).flatten.length) (z.tkn ++ ((Tr.tkns zs).flatten ++ [41] :: us)) := by
      have e : (Tr.tkns (z :: zs)).flatten ++ [41] :: us = z.tkn ++ ((Tr.tkns zs).flatten ++ [41] :: us) := by
        show z.tkn ++ (Tr.tkns zs).flatten ++ _ = _
        rw [List.append_assoc]
      rw [← e]
      exact hA
    have ro := hx z hz _ _ hA
    rw [ea] at hA
    have ah := ahead_eq N W _ a hA hW
    have yl : (Tr.ds ys).length < 16777216 := by
      have := congrArg List.length hxs
      rw [List.length_append] at this
      rw [ds_len]; omega
    rw [eO] at ah
    rw [eO, eO] at ro
    obtain ⟨q2, hq2⟩ : ∃ q : D, q = .int ((r + (Tr.tkns ys).flatten.length : Nat) : Int) := ⟨_, rfl⟩
    obtain ⟨q3, hq3⟩ : ∃ q : D, q = .int ((r + (Tr.tkns ys).flatten.length + z.tkn.length : Nat) : Int) := ⟨_, rfl⟩
    rw [← hq2, ← hq3] at ro
    rw [← hq2] at ah ⊢
    obtain ⟨zd, hzd⟩ : ∃ zd, zd = z.d := ⟨_, rfl⟩
    rw [← hzd] at ro
    simp -dsimp [ah, ro, rdn, na, yl]
    refine ⟨zs.length, Nat.lt_succ_self _, ?_⟩
    rw [hI]
    refine ⟨ys ++ [z], zs, by rw [hxs]; simp, rfl, ?_⟩
    rw [hzd, hq3, ds_app, tkns_app, List.flatten_append]
    show _ = [some (M.ob _ _ [M.d L, M.d (.int ((r + ((Tr.tkns ys).flatten ++ (z.tkn ++ [])).length : Nat) : Int))]), _, _]
    rw [List.append_nil, List.length_append, Nat.add_assoc]
    rfl
noncomputable def prT (ws : List Str) (l : List (List (List Nat))) : List (List Nat) := (List.zipWith (fun w a => [40] :: tl w :: (a ++ [[41]])) ws l).flatten
theorem prT_c (w : Str) (ws : List Str) (a : List (List Nat)) (l : List (List (List Nat))) : prT (w :: ws) (a :: l) = [40] :: tl w :: (a ++ [41] :: prT ws l) := by
  unfold prT
  rw [List.zipWith_cons_cons, List.flatten_cons]
  simp
theorem prT_app : ∀ (ws vs : List Str) (l m : List (List (List Nat))), l.length = ws.length → prT (ws ++ vs) (l ++ m) = prT ws l ++ prT vs m
  | [], vs, [], m, _ => rfl
  | w :: ws, vs, a :: l, m, h => by
    rw [List.cons_append, List.cons_append, prT_c, prT_c, prT_app ws vs l m (by simpa using h)]
    simp
  | [], _, _ :: _, _, h => by simp at h
  | _ :: _, _, [], _, h => by simp at h
theorem prs_app2 : ∀ (ws vs : List Str) (l m : List D), l.length = ws.length → prs (ws ++ vs) (l ++ m) = prs ws l ++ prs vs m
  | [], vs, [], m, _ => rfl
  | w :: ws, vs, a :: l, m, h => by
    show D.tup [.str w, a] :: prs (ws ++ vs) (l ++ m) = D.tup [.str w, a] :: (prs ws l ++ prs vs m)
    rw [prs_app2 ws vs l m (by simpa using h)]
  | [], _, _ :: _, _, h => by simp at h
  | _ :: _, _, [], _, h => by simp at h
theorem rpairs_eq (N : Nat) (W : List Str) (deep : D) (hW : W.length ≤ 1000000) (ws : List Str) (xs : List Tr) (hlx : xs.length = ws.length) (hl : xs.length ≤ 1000) (hx : ∀ x ∈ xs, RdX (N + 2) W deep x) (r : Nat) (us : List (List Nat))
    (h : At W r ([40] :: (prT ws (Tr.tkns xs) ++ [41] :: us))) : den (N + 3) "read_pairs" [rdO W r, .d deep] = .ok (.d (.tup (prs ws (Tr.ds xs)))) [some (rdO W (r + 1 + (prT ws (Tr.tkns xs)).length + 1)), some (.d deep)] := by
  have e41 : tl (")" : Str) = [41] := by decide +kernel
  have e40 : tl ("(" : Str) = [40] := by decide +kernel
  have nb : (("(" : Str) == (")" : Str)) = false := by decide +kernel
  refine eq_of_wp ?_
  rw [den_read_pairs]
  refine run_wp rfl ?_
  unfold b_read_pairs
  obtain ⟨L, hL⟩ : ∃ L, L = D.lst (W.map .str) := ⟨_, rfl⟩
  have eO : ∀ r, rdO W r = .ob "Reading" ["words", "read"] [.d L, .d (.int (r : Int))] := fun r => by rw [hL]; rfl
  have n0 := need_eq N W r "(" (us := prT ws (Tr.tkns xs) ++ [41] :: us) (by rw [e40]; exact h) hW
  have h1 := h.tail
  obtain ⟨fin, hfin⟩ : ∃ fin : M, fin = rdO W (r + 1 + (prT ws (Tr.tkns xs)).length + 1) := ⟨_, rfl⟩
  rw [← hfin]
  obtain ⟨r1, hr1⟩ : ∃ r1, r1 = r + 1 := ⟨_, rfl⟩
  rw [← hr1] at n0 h1 hfin
  rw [eO, eO] at n0
  rw [eO]
  obtain ⟨q, hq⟩ : ∃ q : D, q = .int (r : Int) := ⟨_, rfl⟩
  obtain ⟨q1, hq1⟩ : ∃ q : D, q = .int (r1 : Int) := ⟨_, rfl⟩
  rw [← hq, ← hq1] at n0
  rw [← hq]
  simp -dsimp [List.replicate, n0, rdn]
  obtain ⟨I, hI⟩ : ∃ I : Nat → SS → Prop, I = fun m S => ∃ (ws1 ws2 : List Str) (ys zs : List Tr) (s3 : Option M), ws = ws1 ++ ws2 ∧ xs = ys ++ zs ∧ ys.length = ws1.length ∧ m = zs.length ∧ S = [some (.ob "Reading" ["words", "read"] [.d L, .d (.int ((r1 + (prT ws1 (Tr.tkns ys)).length : Nat) : Int))]), some (.d deep), some (.lst (prs ws1 (Tr.ds ys))), s3] := ⟨_, rfl⟩
  refine wp_while I ?_ xs.length _ (by rw [hI]; exact ⟨[], ws, [], xs, _, rfl, rfl, rfl, rfl, by rw [hq1]; rfl⟩)
  intro m S hS
  rw [hI] at hS
  obtain ⟨ws1, ws2, ys, zs, s3, hws, hxs, hy, rfl, rfl⟩ := hS
  have hz2 : zs.length = ws2.length := by
    have e1 := congrArg List.length hws
    have e2 := congrArg List.length hxs
    rw [List.length_append] at e1 e2
    omega
  have tyl : (Tr.tkns ys).length = ws1.length := by rw [tkns_map, List.length_map]; exact hy
  have hA : At W (r1 + (prT ws1 (Tr.tkns ys)).length) (prT ws2 (Tr.tkns zs) ++ [41] :: us) := by
    rw [hws, hxs, tkns_app, prT_app _ _ _ _ tyl, List.append_assoc] at h1
    exact h1.app2
  have pl : (prs ws1 (Tr.ds ys)).length = ws1.length := by
    rw [← range_prs ws1 (Tr.ds ys) ws1.length rfl (by rw [ds_len]; exact hy), List.length_map, List.length_range]
  cases zs with
  | nil =>
    obtain rfl : ws2 = [] := List.eq_nil_of_length_eq_zero hz2.symm
    have hA : At W (r1 + (prT ws1 (Tr.tkns ys)).length) (tl (")" : Str) :: us) := by rw [e41]; exact hA
    have a := ahead_eq (N + 1) W _ ")" hA hW
    have nd := need_eq N W _ ")" hA hW
    rw [List.append_nil] at hxs hws
    subst hxs hws
    rw [← hfin] at nd
    rw [eO] at a nd
    have yl : (prs ws (Tr.ds xs)).length ≤ 16777216 := by rw [pl]; omega
    obtain ⟨q2, hq2⟩ : ∃ q : D, q = .int ((r1 + (prT ws (Tr.tkns xs)).length : Nat) : Int) := ⟨_, rfl⟩
    rw [← hq2] at a nd ⊢
    obtain ⟨Y, hY⟩ : ∃ Y, Y = prs ws (Tr.ds xs) := ⟨_, rfl⟩
    rw [← hY] at yl ⊢
    simp -dsimp [a, rdn, yl, nd]
  | cons z zs =>
    cases ws2 with
    | nil => simp at hz2
    | cons w ws2 =>
    have hz : z ∈ xs := by rw [hxs]; simp
    rw [show Tr.tkns (z :: zs) = z.tkn :: Tr.tkns zs from rfl, prT_c] at hA
    obtain ⟨p, hp⟩ : ∃ p, p = r1 + (prT ws1 (Tr.tkns ys)).length := ⟨_, rfl⟩
    rw [← hp] at hA
    have hA0 : At W p (tl ("(" : Str) :: (tl w :: (z.tkn ++ [41] :: prT ws2 (Tr.tkns zs)) ++ [41] :: us)) := by rw [e40]; exact hA
    have hA1 : At W (p + 1) (tl w :: ((z.tkn ++ [41] :: prT ws2 (Tr.tkns zs)) ++ [41] :: us)) := hA0.tail
    have hA2 : At W (p + 1 + 1) (z.tkn ++ (tl (")" : Str) :: (prT ws2 (Tr.tkns zs) ++ [41] :: us))) := by
      have := hA1.tail
      rw [List.append_assoc] at this
      rw [e41]
      exact this
    have ro := hx z hz _ _ hA2
    have ah := ahead_eq (N + 1) W _ "(" hA0 hW
    have nd0 := need_eq N W _ "(" hA0 hW
    have tk := taken_eq (N + 1) W _ w hA1 hW
    have nd1 := need_eq N W _ ")" hA2.app2 hW
    rw [eO] at ah
    rw [eO, eO] at ro nd0 tk nd1
    have yl : (prs ws1 (Tr.ds ys)).length < 16777216 := by
      have := congrArg List.length hxs
      rw [List.length_append] at this
      rw [pl]; omega
    obtain ⟨p0, hp0⟩ : ∃ q : D, q = .int (p : Int) := ⟨_, rfl⟩
    obtain ⟨p1, hp1⟩ : ∃ q : D, q = .int ((p + 1 : Nat) : Int) := ⟨_, rfl⟩
    obtain ⟨p2, hp2⟩ : ∃ q : D, q = .int ((p + 1 + 1 : Nat) : Int) := ⟨_, rfl⟩
    obtain ⟨p3, hp3⟩ : ∃ q : D, q = .int ((p + 1 + 1 + z.tkn.length : Nat) : Int) := ⟨_, rfl⟩
    obtain ⟨p4, hp4⟩ : ∃ q : D, q = .int ((p + 1 + 1 + z.tkn.length + 1 : Nat) : Int) := ⟨_, rfl⟩
    rw [← hp0] at ah
    rw [← hp0, ← hp1] at nd0
    rw [← hp1, ← hp2] at tk
    rw [← hp2, ← hp3] at ro
    rw [← hp3, ← hp4] at nd1
    rw [← hp, ← hp0]
    obtain ⟨zd, hzd⟩ : ∃ zd, zd = z.d := ⟨_, rfl⟩
    rw [← hzd] at ro
    simp -dsimp [ah, ro, nd0, nd1, tk, rdn, nb, yl]
    refine ⟨zs.length, Nat.lt_succ_self _, ?_⟩
    rw [hI]
    refine ⟨ws1 ++ [w], ws2, ys ++ [z], zs, some (.d (.str w)), by rw [hws]; simp, by rw [hxs]; simp, by rw [List.length_append, List.length_append, hy]; rfl, rfl, ?_⟩
    rw [hzd, hp4, ds_app, tkns_app, prT_app _ _ _ _ tyl, prs_app2 _ _ _ _ (by rw [ds_len]; exact hy)]
    rw [show Tr.tkns [z] = [z.tkn] from rfl, prT_c, List.length_append, ← Nat.add_assoc, ← hp]
    have e : ([40] :: tl w :: (z.tkn ++ [41] :: prT [] [])).length = 1 + 1 + z.tkn.length + 1 := by
      show (z.tkn ++ [[41]]).length + 1 + 1 = _
      rw [List.length_append, List.length_singleton]; omega
    rw [e, show p + (1 + 1 + z.tkn.length + 1) = p + 1 + 1 + z.tkn.length + 1 by omega]
    rfl
/-! what stands in brackets, read -/
noncomputable def Kd.wd : Kd → Str
  | .do_ w => w
  | .call w => w
  | .let_ _ => "let"
  | .pick _ => "pick"
  | .mark _ => "mark"
  | .many => "many"
  | .iff => "if"
  | .parts => "parts"
  | .loop _ _ => "loop"
  | .rai _ => "raise"
  | .try_ _ => "try"
  | .melt _ _ => "melt"
  | _ => ""
theorem tp_wd (k : Kd) (l : List (List (List Nat))) (hb : k.bare = false) : k.tp l = tl k.wd :: (k.tp l).tail := by
  cases k <;> first | rfl | exact absurd hb Bool.noConfusion
theorem kw_sg : inD (.str "parts") c_SIGNS = some (.d (.bl false)) ∧ inD (.str "pick") c_SIGNS = some (.d (.bl false)) ∧ inD (.str "mark") c_SIGNS = some (.d (.bl false)) ∧ inD (.str "many") c_SIGNS = some (.d (.bl false)) ∧ inD (.str "if") c_SIGNS = some (.d (.bl false)) ∧ inD (.str "let") c_SIGNS = some (.d (.bl false)) ∧ inD (.str "raise") c_SIGNS = some (.d (.bl false)) ∧ inD (.str "loop") c_SIGNS = some (.d (.bl false)) ∧ inD (.str "try") c_SIGNS = some (.d (.bl false)) ∧ inD (.str "melt") c_SIGNS = some (.d (.bl false)) := by
  have h : ("parts" : Str) ∉ SG ∧ ("pick" : Str) ∉ SG ∧ ("mark" : Str) ∉ SG ∧ ("many" : Str) ∉ SG ∧ ("if" : Str) ∉ SG ∧ ("let" : Str) ∉ SG ∧ ("raise" : Str) ∉ SG ∧ ("loop" : Str) ∉ SG ∧ ("try" : Str) ∉ SG ∧ ("melt" : Str) ∉ SG := by decide +kernel
  obtain ⟨h1, h2, h3, h4, h5, h6, h7, h8, h9, h10⟩ := h
  rw [SIGNS_eq]
  refine ⟨?_, ?_, ?_, ?_, ?_, ?_, ?_, ?_, ?_, ?_⟩ <;> rw [inD_strT, decide_eq_false ‹_›]
theorem nkp {w : Str} (h : wordB w = true) : ∀ s ∈ KP, (w == s) = false ∧ (s == w) = false := by
  unfold wordB at h
  simp only [Bool.and_eq_true, Bool.not_eq_true', decide_eq_false_iff_not] at h
  intro s hs
  have hne : w ≠ s := fun e => h.1.1 (e ▸ hs)
  exact ⟨by simpa using hne, by simpa using fun e => hne e.symm⟩
theorem someI (N : Nat) (W : List Str) (deep : D) (hW : W.length ≤ 1000000) (xs : List Tr) (ho : Tr.oks xs) (hw : Tr.wks xs) (ht : Tr.tks xs) (hl : xs.length ≤ 1000) (hx : ∀ x ∈ xs, RdX (N + 1) W deep x) (r e : Nat) (us : List (List Nat))
    (h : At W r ((Tr.tkns xs).flatten ++ [41] :: us)) (he : e = r + (Tr.tkns xs).flatten.length) : den (N + 2) "read_some" [rdO W r, .d deep] = .ok (.d (.tup (Tr.ds xs))) [some (rdO W e), some (.d deep)] := by
  rw [he]
  exact some_eq N W deep hW xs ho hw ht hl hx r us h
theorem inside_eq (N : Nat) (W : List Str) (deep : D) (hW : W.length ≤ 1000000) (k : Kd) (xs : List Tr) (ho : (Tr.nd k xs).ok) (hw : (Tr.nd k xs).wk) (ht : (Tr.nd k xs).tk) (hs : (Tr.nd k xs).sz ≤ 1000) (hb : k.bare = false)
    (hx : ∀ x ∈ xs, RdX (N + 2) W deep x ∧ RdX (N + 3) W deep x) (r : Nat) (us : List (List Nat)) (h : At W r ((k.tp (Tr.tkns xs)).tail ++ [41] :: us)) :
    den (N + 4) "read_inside" [rdO W r, .d (.str k.wd), .d deep] = .ok (.d (Tr.nd k xs).d) [some (rdO W (r + (k.tp (Tr.tkns xs)).tail.length)), some (.d (.str k.wd)), some (.d deep)] := by
  have ha : k.ar xs.length := ho.1
  have hwk : k.wk := hw.1
  have htk : k.tk xs.length := ht.1
  have szs : Tr.szs xs + 1 ≤ 1000 := hs
  have xl : xs.length ≤ 1000 := by have := len_szs xs; omega
  have dl : (Tr.ds xs).length ≤ 1000 := by rw [ds_len]; exact xl
  obtain ⟨s1, s2, s3, s4, s5, s6, s7, s8, s9, s10⟩ := kw_sg
  have so := fun (zs : List Tr) (hz : ∀ z ∈ zs, z ∈ xs) (hl : zs.length ≤ 1000) => someI (N + 1) W deep hW zs (oks_of fun x h => oks_mem ho.2 x (hz x h)) (wks_of fun x h => wks_mem hw.2 x (hz x h)) (tks_of fun x h => tks_mem ht.2 x (hz x h)) hl fun x h => (hx x (hz x h)).1
  obtain ⟨L, hL⟩ : ∃ L, L = D.lst (W.map .str) := ⟨_, rfl⟩
  have eO : ∀ r, rdO W r = .ob "Reading" ["words", "read"] [.d L, .d (.int (r : Int))] := fun r => by rw [hL]; rfl
  obtain ⟨e, he⟩ : ∃ e, e = r + (k.tp (Tr.tkns xs)).tail.length := ⟨_, rfl⟩
  rw [← he]
  refine eq_of_wp ?_
  rw [den_read_inside]
  refine run_wp rfl ?_
  unfold b_read_inside
  cases k with
  | num i => exact absurd hb Bool.noConfusion
  | tru b => exact absurd hb Bool.noConfusion
  | nam w => exact absurd hb Bool.noConfusion
  | do_ w =>
    have s := so xs (fun _ h => h) xl r e us h he
    obtain ⟨a, b, rfl⟩ := len2 ha
    have sg : inD (.str w) c_SIGNS = some (.d (.bl true)) := by rw [SIGNS_eq, inD_strT, decide_eq_true (show w ∈ SG from htk)]
    have ed : (Tr.nd (.do_ w) [a, b]).d = .tup [.str "do", .str w, a.d, b.d] := rfl
    have dx : Tr.ds [a, b] = [a.d, b.d] := rfl
    rw [dx, eO, eO] at s
    rw [ed, eO, eO]
    obtain ⟨p0, hp0⟩ : ∃ q : D, q = .int (r : Int) := ⟨_, rfl⟩
    obtain ⟨p1, hp1⟩ : ∃ q : D, q = .int (e : Int) := ⟨_, rfl⟩
    rw [← hp0, ← hp1] at s
    rw [← hp0, ← hp1]
    show R.wp _ _
    simp -dsimp [List.replicate, Kd.wd, sg, s]
    first | done | rfl
  | rai w =>
    have hx0 : xs = [] := by cases xs with | nil => rfl | cons a b => exact absurd ha (by simp [Kd.ar])
    subst hx0
    have h : At W r (tl w :: [41] :: us) := h
    have t := taken_eq (N + 2) W r w h hW
    have s := so [] (fun _ h => h) (Nat.zero_le _) (r + 1) e us h.tail he
    have ed : (Tr.nd (.rai w) []).d = .tup [.str "raise", .str w] := rfl
    have dx : Tr.ds [] = [] := rfl
    rw [dx, eO, eO] at s
    rw [eO, eO] at t
    rw [ed, eO, eO]
    obtain ⟨p0, hp0⟩ : ∃ q : D, q = .int (r : Int) := ⟨_, rfl⟩
    obtain ⟨p1, hp1⟩ : ∃ q : D, q = .int ((r + 1 : Nat) : Int) := ⟨_, rfl⟩
    obtain ⟨p2, hp2⟩ : ∃ q : D, q = .int (e : Int) := ⟨_, rfl⟩
    rw [← hp0, ← hp1] at t
    rw [← hp1, ← hp2] at s
    rw [← hp0, ← hp2]
    simp -dsimp [List.replicate, Kd.wd, s7, s, t, rdn, inD_t2]
    first | done | rfl
  | let_ w =>
    have h : At W r (tl w :: ((Tr.tkns xs).flatten ++ [41] :: us)) := h
    have t := taken_eq (N + 2) W r w h hW
    have s := so xs (fun _ h => h) xl (r + 1) e us h.tail (by rw [he]; show r + ((Tr.tkns xs).flatten.length + 1) = _; omega)
    obtain ⟨a, b, rfl⟩ := len2 ha
    have ed : (Tr.nd (.let_ w) [a, b]).d = .tup [.str "let", .str w, a.d, b.d] := rfl
    have dx : Tr.ds [a, b] = [a.d, b.d] := rfl
    rw [dx, eO, eO] at s
    rw [eO, eO] at t
    rw [ed, eO, eO]
    obtain ⟨p0, hp0⟩ : ∃ q : D, q = .int (r : Int) := ⟨_, rfl⟩
    obtain ⟨p1, hp1⟩ : ∃ q : D, q = .int ((r + 1 : Nat) : Int) := ⟨_, rfl⟩
    obtain ⟨p2, hp2⟩ : ∃ q : D, q = .int (e : Int) := ⟨_, rfl⟩
    rw [← hp0, ← hp1] at t
    rw [← hp1, ← hp2] at s
    rw [← hp0, ← hp2]
    simp -dsimp [List.replicate, Kd.wd, s6, s, t, rdn, inD_t2]
    first | done | rfl
  | pick i =>
    obtain ⟨a, rfl⟩ := len1 ha
    have hi : 0 ≤ i ∧ i ≤ 1000000000 := hwk
    have h : At W r (tl (num i) :: ((a.tkn ++ []) ++ [41] :: us)) := h
    have t := taken_eq (N + 2) W r (num i) h hW
    have nn := number_eq (N + 2) i hi
    have ro := (hx a (by simp)).2 (r + 1) ([41] :: us) (by have := h.tail; rw [List.append_nil] at this; exact this)
    have ee : e = r + 1 + a.tkn.length := by rw [he]; show r + ((a.tkn ++ []).length + 1) = _; rw [List.append_nil]; omega
    rw [← ee] at ro
    have ed : (Tr.nd (.pick i) [a]).d = .tup [.str "pick", .int i, a.d] := rfl
    rw [eO, eO] at ro
    rw [eO, eO] at t
    rw [ed, eO, eO]
    obtain ⟨p0, hp0⟩ : ∃ q : D, q = .int (r : Int) := ⟨_, rfl⟩
    obtain ⟨p1, hp1⟩ : ∃ q : D, q = .int ((r + 1 : Nat) : Int) := ⟨_, rfl⟩
    obtain ⟨p2, hp2⟩ : ∃ q : D, q = .int (e : Int) := ⟨_, rfl⟩
    rw [← hp0, ← hp1] at t
    rw [← hp1, ← hp2] at ro
    rw [← hp0, ← hp2]
    simp -dsimp [List.replicate, Kd.wd, s2, ro, t, nn, rdn, inD_t2]
    first | done | rfl
  | mark i =>
    obtain ⟨a, rfl⟩ := len1 ha
    have hi : 0 ≤ i ∧ i ≤ 1000000000 := hwk
    have h : At W r (tl (num i) :: ((a.tkn ++ []) ++ [41] :: us)) := h
    have t := taken_eq (N + 2) W r (num i) h hW
    have nn := number_eq (N + 2) i hi
    have ro := (hx a (by simp)).2 (r + 1) ([41] :: us) (by have := h.tail; rw [List.append_nil] at this; exact this)
    have ee : e = r + 1 + a.tkn.length := by rw [he]; show r + ((a.tkn ++ []).length + 1) = _; rw [List.append_nil]; omega
    rw [← ee] at ro
    have ed : (Tr.nd (.mark i) [a]).d = .tup [.str "mark", .int i, a.d] := rfl
    rw [eO, eO] at ro
    rw [eO, eO] at t
    rw [ed, eO, eO]
    obtain ⟨p0, hp0⟩ : ∃ q : D, q = .int (r : Int) := ⟨_, rfl⟩
    obtain ⟨p1, hp1⟩ : ∃ q : D, q = .int ((r + 1 : Nat) : Int) := ⟨_, rfl⟩
    obtain ⟨p2, hp2⟩ : ∃ q : D, q = .int (e : Int) := ⟨_, rfl⟩
    rw [← hp0, ← hp1] at t
    rw [← hp1, ← hp2] at ro
    rw [← hp0, ← hp2]
    simp -dsimp [List.replicate, Kd.wd, s3, ro, t, nn, rdn, inD_t2]
    first | done | rfl
  | many =>
    have s := so xs (fun _ h => h) xl r e us h he
    obtain ⟨a, rfl⟩ := len1 ha
    have ed : (Tr.nd .many [a]).d = .tup [.str "many", a.d] := rfl
    have dx : Tr.ds [a] = [a.d] := rfl
    rw [dx, eO, eO] at s
    rw [ed, eO, eO]
    obtain ⟨p0, hp0⟩ : ∃ q : D, q = .int (r : Int) := ⟨_, rfl⟩
    obtain ⟨p1, hp1⟩ : ∃ q : D, q = .int (e : Int) := ⟨_, rfl⟩
    rw [← hp0, ← hp1] at s
    rw [← hp0, ← hp1]
    simp -dsimp [List.replicate, Kd.wd, s4, s, inD_t2]
    first | done | rfl
  | iff =>
    have s := so xs (fun _ h => h) xl r e us h he
    obtain ⟨a, b, c, rfl⟩ := len3 ha
    have ed : (Tr.nd .iff [a, b, c]).d = .tup [.str "if", a.d, b.d, c.d] := rfl
    have dx : Tr.ds [a, b, c] = [a.d, b.d, c.d] := rfl
    rw [dx, eO, eO] at s
    rw [ed, eO, eO]
    obtain ⟨p0, hp0⟩ : ∃ q : D, q = .int (r : Int) := ⟨_, rfl⟩
    obtain ⟨p1, hp1⟩ : ∃ q : D, q = .int (e : Int) := ⟨_, rfl⟩
    rw [← hp0, ← hp1] at s
    rw [← hp0, ← hp1]
    simp -dsimp [List.replicate, Kd.wd, s5, s, inD_t2]
    first | done | rfl
  | parts =>
    have s := so xs (fun _ h => h) xl r e us h he
    have ed : (Tr.nd .parts xs).d = .tup [.str "parts", .tup (Tr.ds xs)] := rfl
    rw [eO, eO] at s
    rw [ed, eO, eO]
    obtain ⟨p0, hp0⟩ : ∃ q : D, q = .int (r : Int) := ⟨_, rfl⟩
    obtain ⟨p1, hp1⟩ : ∃ q : D, q = .int (e : Int) := ⟨_, rfl⟩
    rw [← hp0, ← hp1] at s
    rw [← hp0, ← hp1]
    simp -dsimp [List.replicate, Kd.wd, s1, s, inD_t2]
    first | done | rfl
  | call w =>
    have s := so xs (fun _ h => h) xl r e us h he
    have wb : wordB w = true := htk.1
    have ns : inD (.str w) c_SIGNS = some (.d (.bl false)) := by
      rw [SIGNS_eq, inD_strT, decide_eq_false]
      intro hm
      have := sg_nw w hm
      rw [wb] at this
      cases this
    have K := nkp wb
    have k1 := (K "parts" (by simp [KP])).1
    have k2 := (K "pick" (by simp [KP])).2
    have k3 := (K "mark" (by simp [KP])).2
    have k4 := (K "many" (by simp [KP])).2
    have k5 := (K "if" (by simp [KP])).2
    have k6 := (K "let" (by simp [KP])).2
    have k7 := (K "raise" (by simp [KP])).2
    have k8 := (K "loop" (by simp [KP])).1
    have k9 := (K "try" (by simp [KP])).1
    have k10 := (K "melt" (by simp [KP])).1
    have ed : (Tr.nd (.call w) xs).d = .tup [.str "call", .str w, .tup (Tr.ds xs)] := rfl
    rw [eO, eO] at s
    rw [ed, eO, eO]
    obtain ⟨p0, hp0⟩ : ∃ q : D, q = .int (r : Int) := ⟨_, rfl⟩
    obtain ⟨p1, hp1⟩ : ∃ q : D, q = .int (e : Int) := ⟨_, rfl⟩
    rw [← hp0, ← hp1] at s
    rw [← hp0, ← hp1]
    simp -dsimp [List.replicate, Kd.wd, ns, k1, k2, k3, k4, k5, k6, k7, k8, k9, k10, s, inD_t2]
    first | done | rfl
  | try_ w =>
    obtain ⟨a, b, rfl⟩ := len2 ha
    have h : At W r ((a.tkn ++ tl w :: b.tkn) ++ [41] :: us) := h
    have h : At W r (a.tkn ++ (tl w :: (b.tkn ++ [41] :: us))) := by rw [List.append_assoc] at h; exact h
    have ro := (hx a (by simp)).2 r _ h
    have t := taken_eq (N + 2) W _ w h.app2 hW
    have s := so [b] (by simp) (by simp) (r + a.tkn.length + 1) e us (by
      have := h.app2.tail
      show At W _ ((b.tkn ++ []) ++ [41] :: us)
      rw [List.append_nil]
      exact this) (by
      rw [he]
      show r + (a.tkn ++ tl w :: b.tkn).length = r + a.tkn.length + 1 + (b.tkn ++ []).length
      rw [List.append_nil, List.length_append, List.length_cons]; omega)
    have ed : (Tr.nd (.try_ w) [a, b]).d = .tup [.str "try", a.d, .str w, b.d] := rfl
    have dx : Tr.ds [b] = [b.d] := rfl
    rw [dx, eO, eO] at s
    rw [eO, eO] at t ro
    rw [ed, eO, eO]
    obtain ⟨p0, hp0⟩ : ∃ q : D, q = .int (r : Int) := ⟨_, rfl⟩
    obtain ⟨p1, hp1⟩ : ∃ q : D, q = .int ((r + a.tkn.length : Nat) : Int) := ⟨_, rfl⟩
    obtain ⟨p2, hp2⟩ : ∃ q : D, q = .int ((r + a.tkn.length + 1 : Nat) : Int) := ⟨_, rfl⟩
    obtain ⟨p3, hp3⟩ : ∃ q : D, q = .int (e : Int) := ⟨_, rfl⟩
    rw [← hp0, ← hp1] at ro
    rw [← hp1, ← hp2] at t
    rw [← hp2, ← hp3] at s
    rw [← hp0, ← hp3]
    simp -dsimp [List.replicate, Kd.wd, s9, s, t, ro, rdn, inD_t2]
    first | done | rfl
  | loop w v =>
    obtain ⟨a, b, c, rfl⟩ := len3 ha
    have h : At W r ((tl w :: (a.tkn ++ tl v :: (b.tkn ++ c.tkn))) ++ [41] :: us) := h
    have h : At W r (tl w :: (a.tkn ++ (tl v :: (b.tkn ++ (c.tkn ++ [41] :: us))))) := by simpa using h
    have t := taken_eq (N + 2) W r w h hW
    have h1 := h.tail
    have ro := (hx a (by simp)).2 _ _ h1
    have t2 := taken_eq (N + 2) W _ v h1.app2 hW
    have s := so [b, c] (by simp) (by simp) (r + 1 + a.tkn.length + 1) e us (by
      have := h1.app2.tail
      show At W _ ((b.tkn ++ (c.tkn ++ [])) ++ [41] :: us)
      rw [List.append_nil, List.append_assoc]
      exact this) (by
      rw [he]
      show r + (tl w :: (a.tkn ++ tl v :: (b.tkn ++ c.tkn))).length = r + 1 + a.tkn.length + 1 + (b.tkn ++ (c.tkn ++ [])).length
      rw [List.append_nil, List.length_cons, List.length_append, List.length_cons]; omega)
    have ed : (Tr.nd (.loop w v) [a, b, c]).d = .tup [.str "loop", .str w, a.d, .str v, b.d, c.d] := rfl
    have dx : Tr.ds [b, c] = [b.d, c.d] := rfl
    rw [dx, eO, eO] at s
    rw [eO, eO] at t ro t2
    rw [ed, eO, eO]
    obtain ⟨p0, hp0⟩ : ∃ q : D, q = .int (r : Int) := ⟨_, rfl⟩
    obtain ⟨p1, hp1⟩ : ∃ q : D, q = .int ((r + 1 : Nat) : Int) := ⟨_, rfl⟩
    obtain ⟨p2, hp2⟩ : ∃ q : D, q = .int ((r + 1 + a.tkn.length : Nat) : Int) := ⟨_, rfl⟩
    obtain ⟨p3, hp3⟩ : ∃ q : D, q = .int ((r + 1 + a.tkn.length + 1 : Nat) : Int) := ⟨_, rfl⟩
    obtain ⟨p4, hp4⟩ : ∃ q : D, q = .int (e : Int) := ⟨_, rfl⟩
    rw [← hp0, ← hp1] at t
    rw [← hp1, ← hp2] at ro
    rw [← hp2, ← hp3] at t2
    rw [← hp3, ← hp4] at s
    rw [← hp0, ← hp4]
    simp -dsimp [List.replicate, Kd.wd, s8, s, t, t2, ro, rdn, inD_t2]
    first | done | rfl
  | melt w ws =>
    obtain ⟨h1, h2⟩ : xs.length = ws.length + 1 ∧ ws.length ≤ 1000 := ha
    obtain ⟨ys, l, rfl, hy⟩ := snoc_of h1
    have tyl : (Tr.tkns ys).length = ws.length := by rw [tkns_map, List.length_map]; exact hy
    have ez : prT ws (Tr.tkns (ys ++ [l])) = prT ws (Tr.tkns ys) := by
      have := prT_app ws [] (Tr.tkns ys) (Tr.tkns [l]) tyl
      rw [List.append_nil] at this
      rw [tkns_app, this]
      exact List.append_nil _
    have eg : (Tr.tkns (ys ++ [l])).getD ws.length [] = l.tkn := by
      rw [tkns_app, List.getD_eq_getElem?_getD, List.getElem?_append_right (by omega), tyl, Nat.sub_self]
      rfl
    have et : ((Kd.melt w ws).tp (Tr.tkns (ys ++ [l]))).tail = tl w :: ([40] :: (prT ws (Tr.tkns ys) ++ [41] :: l.tkn)) := by
      show tl w :: [40] :: (prT ws (Tr.tkns (ys ++ [l])) ++ [41] :: (Tr.tkns (ys ++ [l])).getD ws.length []) = _
      rw [ez, eg]
    rw [et] at h he
    have h : At W r (tl w :: ([40] :: (prT ws (Tr.tkns ys) ++ [41] :: (l.tkn ++ [41] :: us)))) := by simpa using h
    have t := taken_eq (N + 2) W r w h hW
    have h1 := h.tail
    have pe := rpairs_eq N W deep hW ws ys hy (by omega) (fun x hxx => (hx x (by simp [hxx])).1) (r + 1) _ h1
    have s := so [l] (by simp) (by simp) (r + 1 + 1 + (prT ws (Tr.tkns ys)).length + 1) e us (by
      have := h1.tail.app2.tail
      show At W _ ((l.tkn ++ []) ++ [41] :: us)
      rw [List.append_nil]
      exact this) (by
      rw [he]
      show _ = r + 1 + 1 + (prT ws (Tr.tkns ys)).length + 1 + (l.tkn ++ []).length
      rw [List.append_nil, List.length_cons, List.length_cons, List.length_append, List.length_cons]; omega)
    have ed : (Tr.nd (.melt w ws) (ys ++ [l])).d = .tup [.str "melt", .str w, .tup (prs ws (Tr.ds ys)), l.d] := by
      show (Kd.melt w ws).mk (Tr.ds (ys ++ [l])) = _
      rw [ds_app]
      exact mk_melt (by rw [ds_len]; exact hy)
    have dx : Tr.ds [l] = [l.d] := rfl
    rw [dx, eO, eO] at s
    rw [eO, eO] at t pe
    rw [ed, eO, eO]
    obtain ⟨p0, hp0⟩ : ∃ q : D, q = .int (r : Int) := ⟨_, rfl⟩
    obtain ⟨p1, hp1⟩ : ∃ q : D, q = .int ((r + 1 : Nat) : Int) := ⟨_, rfl⟩
    obtain ⟨p2, hp2⟩ : ∃ q : D, q = .int ((r + 1 + 1 + (prT ws (Tr.tkns ys)).length + 1 : Nat) : Int) := ⟨_, rfl⟩
    obtain ⟨p3, hp3⟩ : ∃ q : D, q = .int (e : Int) := ⟨_, rfl⟩
    rw [← hp0, ← hp1] at t
    rw [← hp1, ← hp2] at pe
    rw [← hp2, ← hp3] at s
    rw [← hp0, ← hp3]
    obtain ⟨P, hP⟩ : ∃ P, P = prs ws (Tr.ds ys) := ⟨_, rfl⟩
    rw [← hP] at pe ⊢
    simp -dsimp [List.replicate, Kd.wd, s10, s, t, pe, rdn, inD_t2]
    first | done | rfl
/-! read_one, read_tree -/
theorem hd_fig (x : Str) (hx : x.length ≤ 1000) (c : Nat) (l : List Nat) (h : tl x = c :: l) : ∃ y : Str, ixD (.str x) (.int 0) = some (.d (.str y)) ∧ y = ⟨#[c]⟩ := by
  refine ⟨⟨#[c]⟩, ?_, rfl⟩
  have e : atI x.cps.toList 0 = some c := by
    have h : x.cps.toList = c :: l := h
    rw [h]
    exact atI_ok (by decide) rfl
  rw [ixD_s, if_pos (by show _ ≤ 16777216; omega), e]
  rfl
theorem one_eq (W : List Str) (hW : W.length ≤ 1000000) : ∀ (c n : Nat) (t : Tr) (deep : Int), t.ok → t.wk → t.tk → t.dep ≤ c → (c : Int) ≤ deep → deep ≤ 64 → t.sz ≤ 1000 → RdX (n + 2 + 3 * c) W (.int deep) t
  | 0, n, .nd k xs, deep, _, _, _, hd, _, _, _ => absurd (show Tr.deps xs + 1 ≤ 0 from hd) (by omega)
  | c + 1, n, .nd k xs, deep, ho, hw, ht, hd, hc, hc2, hs => by
    intro r us h
    have hds : Tr.deps xs ≤ c := Nat.le_of_succ_le_succ (show Tr.deps xs + 1 ≤ c + 1 from hd)
    have szs : Tr.szs xs + 1 ≤ 1000 := hs
    have ih : ∀ n, ∀ x ∈ xs, RdX (n + 2 + 3 * c) W (.int (deep - 1)) x := fun n x hx => one_eq W hW c n x (deep - 1) (oks_mem ho.2 x hx) (wks_mem hw.2 x hx) (tks_mem ht.2 x hx) (deps_mem hds x hx) (by omega) (by omega) (by
      obtain ⟨p, q, rfl⟩ := List.append_of_mem hx
      rw [szs_app] at szs
      have szs : Tr.szs p + (x.sz + Tr.szs q) + 1 ≤ 1000 := szs
      omega)
    have hwk : k.wk := hw.1
    have htk : k.tk xs.length := ht.1
    have e41 : tl (")" : Str) = [41] := by decide +kernel
    have e40 : tl ("(" : Str) = [40] := by decide +kernel
    have d0 : ¬ deep = 0 := by omega
    obtain ⟨L, hL⟩ : ∃ L, L = D.lst (W.map .str) := ⟨_, rfl⟩
    have eO : ∀ r, rdO W r = .ob "Reading" ["words", "read"] [.d L, .d (.int (r : Int))] := fun r => by rw [hL]; rfl
    obtain ⟨N, hN⟩ : ∃ N, N = n + 3 * c := ⟨_, rfl⟩
    rw [show n + 2 + 3 * (c + 1) = N + 4 + 1 by omega]
    refine eq_of_wp ?_
    rw [den_read_one]
    refine run_wp rfl ?_
    unfold b_read_one
    by_cases hb : k.bare = true
    · cases k with
      | num i =>
        have hi : 0 ≤ i ∧ i ≤ 1000000000 := hwk
        have h : At W r (tl (num i) :: us) := h
        have t := taken_eq (N + 3) W r (num i) h hW
        have nn := number_eq (N + 3) i hi
        have ed : (Tr.nd (.num i) xs).d = .tup [.str "number", .int i] := rfl
        have hdg := num_d hi.1
        have wn := wc_num hi.1
        rw [show (Tr.nd (.num i) xs).tkn.length = 1 from rfl, ed, eO, eO]
        rw [eO, eO] at t
        obtain ⟨p0, hp0⟩ : ∃ q : D, q = .int (r : Int) := ⟨_, rfl⟩
        obtain ⟨p1, hp1⟩ : ∃ q : D, q = .int ((r + 1 : Nat) : Int) := ⟨_, rfl⟩
        rw [← hp0, ← hp1] at t
        rw [← hp0, ← hp1]
        obtain ⟨x, hx⟩ : ∃ x, x = num i := ⟨_, rfl⟩
        rw [← hx] at t nn hdg wn
        have lp : (x == ("(" : Str)) = false := by
          rw [str_beq, e40]
          refine decide_eq_false fun e => ?_
          exact (wn.2 40 (by rw [e]; simp)).2.1 rfl
        cases hxt : tl x with
        | nil => exact absurd hxt wn.1
        | cons a l =>
          have ha := hdg a (by rw [hxt]; simp)
          have yn : (("yes" : Str) == x) = false ∧ (("no" : Str) == x) = false := by
            have e1 : tl ("yes" : Str) = [121, 101, 115] := by decide +kernel
            have e2 : tl ("no" : Str) = [110, 111] := by decide +kernel
            refine ⟨?_, ?_⟩ <;> rw [str_beq]
            · refine decide_eq_false fun e => ?_
              rw [hxt, e1] at e
              injection e with e _
              omega
            · refine decide_eq_false fun e => ?_
              rw [hxt, e2] at e
              injection e with e _
              omega
          obtain ⟨y, iy, hy⟩ := hd_fig x (by rw [hx]; have := num_10 hi; omega) a l hxt
          have f : isFi a = true := by rw [isFi_iff]; exact decide_eq_true ha
          have f : a ∈ FG10 := by unfold isFi at f; simpa using f
          have fy : inD (.str y) c_FIGURES = some (.d (.bl true)) := by rw [hy]; unfold c_FIGURES; rw [inD_one, tl_FG, decide_eq_true f]
          simp -dsimp [List.replicate, t, rdn, lp, yn, inD_t2, d0, iy, fy, nn]
      | tru b =>
        have ed : (Tr.nd (.tru b) xs).d = .tup [.str "truth", .bl b] := rfl
        obtain ⟨w, hw1, hw2, hw3, hw4⟩ : ∃ w : Str, tl (if b = true then ("yes" : Str) else "no") = tl w ∧ (w == ("(" : Str)) = false ∧ ((("yes" : Str) == w) || (("no" : Str) == w)) = true ∧ (w == ("yes" : Str)) = b := by
          cases b
          · exact ⟨"no", rfl, by decide +kernel, by decide +kernel, by decide +kernel⟩
          · exact ⟨"yes", rfl, by decide +kernel, by decide +kernel, by decide +kernel⟩
        have h : At W r (tl w :: us) := by
          have h : At W r (tl (if b = true then ("yes" : Str) else "no") :: us) := h
          rw [hw1] at h
          exact h
        have t := taken_eq (N + 3) W r w h hW
        rw [show (Tr.nd (.tru b) xs).tkn.length = 1 from rfl, ed, eO, eO]
        rw [eO, eO] at t
        obtain ⟨p0, hp0⟩ : ∃ q : D, q = .int (r : Int) := ⟨_, rfl⟩
        obtain ⟨p1, hp1⟩ : ∃ q : D, q = .int ((r + 1 : Nat) : Int) := ⟨_, rfl⟩
        rw [← hp0, ← hp1] at t
        rw [← hp0, ← hp1]
        have i2 : inD (.str w) (.tup [.str "yes", .str "no"]) = some (.d (.bl true)) := by rw [inD_t2, hw3]
        simp -dsimp [List.replicate, t, rdn, hw2, i2, hw4, d0]
      | nam w =>
        have ed : (Tr.nd (.nam w) xs).d = .tup [.str "name", .str w] := rfl
        have h : At W r (tl w :: us) := h
        have t := taken_eq (N + 3) W r w h hW
        have wb : wordB w = true := htk
        have wn := wc_word wb
        have K := nkp wb
        have k1 := (K "yes" (by simp [KP])).2
        have k2 := (K "no" (by simp [KP])).2
        have lp : (w == ("(" : Str)) = false := by
          rw [str_beq, e40]
          refine decide_eq_false fun e => ?_
          exact (wn.2 40 (by rw [e]; simp)).2.1 rfl
        rw [show (Tr.nd (.nam w) xs).tkn.length = 1 from rfl, ed, eO, eO]
        rw [eO, eO] at t
        obtain ⟨p0, hp0⟩ : ∃ q : D, q = .int (r : Int) := ⟨_, rfl⟩
        obtain ⟨p1, hp1⟩ : ∃ q : D, q = .int ((r + 1 : Nat) : Int) := ⟨_, rfl⟩
        rw [← hp0, ← hp1] at t
        rw [← hp0, ← hp1]
        have wl : ∃ a l, tl w = a :: l ∧ isLe a = true := by
          unfold wordB at wb
          simp only [Bool.and_eq_true, decide_eq_true_eq] at wb
          obtain ⟨⟨_, ⟨h1, _⟩, h3⟩, _⟩ := wb
          obtain ⟨b, hb, hd, _⟩ := rdrop_spec isFi (tl w)
          have hb : tl w = wS w ++ b := hb
          cases hs : wS w with
          | nil => rw [hs] at h1; simp at h1
          | cons a m =>
            rw [hs] at hb h3
            exact ⟨a, m ++ b, hb, by have := List.all_eq_true.mp h3 a (by simp); exact this⟩
        obtain ⟨a, l, hxt, ha⟩ := wl
        rw [isLe_iff] at ha
        have ha := of_decide_eq_true ha
        obtain ⟨y, iy, hy⟩ := hd_fig w (by have : w.length ≤ 12 := hwk.2; omega) a l hxt
        have fy : inD (.str y) c_FIGURES = some (.d (.bl false)) := by
          have f : isFi a = false := by rw [isFi_iff]; exact decide_eq_false (by omega)
          have f : ¬ a ∈ FG10 := by unfold isFi at f; simpa using f
          rw [hy]; unfold c_FIGURES; rw [inD_one, tl_FG, decide_eq_false f]
        simp -dsimp [List.replicate, t, rdn, lp, k1, k2, inD_t2, d0, iy, fy]
      | _ => exact absurd hb Bool.noConfusion
    · have hb : k.bare = false := by simpa using hb
      have e : (Tr.nd k xs).tkn = [40] :: (k.tp (Tr.tkns xs) ++ [[41]]) := by
        cases k <;> first | rfl | exact absurd hb Bool.noConfusion
      have ep := tp_wd k (Tr.tkns xs) hb
      obtain ⟨u, hu⟩ : ∃ u, u = (k.tp (Tr.tkns xs)).tail := ⟨_, rfl⟩
      have h : At W r (tl ("(" : Str) :: (tl k.wd :: (u ++ [41] :: us))) := by
        rw [e, ep, ← hu] at h
        rw [e40]
        simpa using h
      have t := taken_eq (N + 3) W r "(" h hW
      have t2 := taken_eq (N + 3) W (r + 1) k.wd h.tail hW
      have ins := inside_eq N W (.int (deep - 1)) hW k xs ho hw ht hs hb (fun x hx => ⟨by have := ih n x hx; rw [show n + 2 + 3 * c = N + 2 by omega] at this; exact this, by have := ih (n + 1) x hx; rw [show n + 1 + 2 + 3 * c = N + 3 by omega] at this; exact this⟩) (r + 1 + 1) us (by rw [← hu]; exact h.tail.tail)
      rw [← hu] at ins
      have nd := need_eq (N + 2) W (r + 1 + 1 + u.length) ")" (us := us) (by rw [e41]; exact At.app2 h.tail.tail) hW
      have ln : r + (Tr.nd k xs).tkn.length = r + 1 + 1 + u.length + 1 := by
        rw [e, ep, ← hu, List.length_cons, List.length_append, List.length_cons, List.length_singleton]; omega
      rw [ln, eO, eO]
      rw [eO, eO] at t t2 ins nd
      obtain ⟨p0, hp0⟩ : ∃ q : D, q = .int (r : Int) := ⟨_, rfl⟩
      obtain ⟨p1, hp1⟩ : ∃ q : D, q = .int ((r + 1 : Nat) : Int) := ⟨_, rfl⟩
      obtain ⟨p2, hp2⟩ : ∃ q : D, q = .int ((r + 1 + 1 : Nat) : Int) := ⟨_, rfl⟩
      obtain ⟨p3, hp3⟩ : ∃ q : D, q = .int ((r + 1 + 1 + u.length : Nat) : Int) := ⟨_, rfl⟩
      obtain ⟨p4, hp4⟩ : ∃ q : D, q = .int ((r + 1 + 1 + u.length + 1 : Nat) : Int) := ⟨_, rfl⟩
      rw [← hp0, ← hp1] at t
      rw [← hp1, ← hp2] at t2
      rw [← hp2, ← hp3] at ins
      rw [← hp3, ← hp4] at nd
      rw [← hp0, ← hp4]
      obtain ⟨td, htd⟩ : ∃ td, td = (Tr.nd k xs).d := ⟨_, rfl⟩
      rw [← htd] at ins ⊢
      simp -dsimp [List.replicate, t, t2, ins, nd, rdn, d0]
/-! read_tree -/
theorem rep_len (x : Str) : (Txt.replace x "(" " ( ").length ≤ 3 * x.length := by
  have e1 : tl ("(" : Str) = [40] := by decide +kernel
  have e2 : tl (" ( " : Str) = [32, 40, 32] := by decide +kernel
  have r1 : tl (Txt.replace x "(" " ( ") = StrLaws.replL (tl ("(" : Str)) (tl (" ( " : Str)) (tl x) := StrLaws.replace_list (by decide +kernel)
  rw [tl_len, r1, e1, e2, tl_len]
  unfold StrLaws.replL
  rw [replS_one]
  have key : ∀ l : List Nat, (l.flatMap fun d => if d = 40 then [32, 40, 32] else [d]).length ≤ 3 * l.length := by
    intro l
    induction l with
    | nil => exact Nat.le_refl _
    | cons a l ih =>
      rw [List.flatMap_cons, List.length_append, List.length_cons]
      split
      · show 3 + _ ≤ _; omega
      · show 1 + _ ≤ _; omega
  exact key _
theorem esc_len (l : List Nat) : (l.flatMap esc).length ≤ 3 * l.length := by
  induction l with
  | nil => exact Nat.le_refl _
  | cons a l ih =>
    rw [List.flatMap_cons, List.length_append, List.length_cons]
    have : (esc a).length ≤ 3 := by
      unfold esc
      split
      · exact Nat.le_refl _
      · split
        · exact Nat.le_refl _
        · show 1 ≤ 3; omega
    omega
theorem rep2_len (x : Str) : (Txt.replace (Txt.replace x "(" " ( ") ")" " ) ").length ≤ 3 * x.length := by
  rw [tl_len, esc_tl, tl_len]
  exact esc_len _
theorem wfin_len (l : List Nat) : ∀ st : List (List Nat) × List Nat, (TL.wfin (l.foldl TL.wstep st)).length ≤ st.1.length + 1 + l.length := by
  induction l with
  | nil =>
    intro st
    show (TL.wfin st).length ≤ _
    unfold TL.wfin
    split
    · simp
    · rw [List.length_append]; simp
  | cons c l ih =>
    intro st
    rw [List.foldl_cons]
    have := ih (TL.wstep st c)
    have h : (TL.wstep st c).1.length ≤ st.1.length + 1 := by
      unfold TL.wstep
      split
      · split
        · omega
        · dsimp only; rw [List.length_append]; simp
      · dsimp only; omega
    rw [List.length_cons]
    omega
noncomputable def wdsOf (x : Str) : List Str := Txt.words (Txt.replace (Txt.replace x "(" " ( ") ")" " ) ")
theorem wds_len (x : Str) : (wdsOf x).length ≤ 1 + 3 * x.length := by
  have e := wds_lex x
  have e2 := congrArg List.length e
  rw [List.length_map] at e2
  unfold wdsOf
  rw [e2]
  unfold lexS
  have h1 := wfin_len ((tl x).flatMap esc) ([], [])
  have h2 := esc_len (tl x)
  have h3 : (tl x).length = x.length := (tl_len x).symm
  have h4 : (([] : List (List Nat)), ([] : List Nat)).1.length = 0 := rfl
  omega
theorem words_in_eq (n : Nat) (x : Str) (h : x.length ≤ 1000000) : den (n + 1) "words_in" [.d (.str x)] = .ok (.lst ((wdsOf x).map .str)) [some (.d (.str x))] := by
  refine eq_of_wp ?_
  rw [den_words_in]
  refine run_wp rfl ?_
  unfold b_words_in wdsOf
  have h1 := rep_len x
  have h2 := rep2_len x
  have l3 : (" ( " : Str).length = 3 ∧ (" ) " : Str).length = 3 := by decide +kernel
  obtain ⟨y, hy⟩ : ∃ y, y = Txt.replace x "(" " ( " := ⟨_, rfl⟩
  rw [← hy] at h1 h2 ⊢
  obtain ⟨z, hz⟩ : ∃ z, z = Txt.replace y ")" " ) " := ⟨_, rfl⟩
  rw [← hz] at h2 ⊢
  simp -dsimp [List.replicate, l3, ← hy, ← hz, show x.length + (x.length + 1) * 3 ≤ 16777216 by omega, show y.length + (y.length + 1) * 3 ≤ 16777216 by omega, show z.length + 2 ≤ 16777216 by omega]
theorem rinit_eq (n : Nat) (W : List Str) : den (n + 1) "Reading.__init__" [.ob "Reading" [] [], .d (.lst (W.map .str))] = .ok (.d .non) [some (rdO W 0), some (.d (.lst (W.map .str)))] := by
  refine eq_of_wp ?_
  rw [den_Reading____init__]
  refine run_wp rfl ?_
  unfold b_Reading____init__ rdO
  have nw : ¬ ("words" : Str) = "read" := by decide +kernel
  simp -dsimp [List.replicate, nw]
theorem read_tree_eq (n c : Nat) (t : Tr) (ho : t.ok) (hw : t.wk) (ht : t.tk) (hd : t.dep ≤ c) (hc : c ≤ 64) (hs : t.sz ≤ 1000) : den (n + 6 + 3 * c) "read_tree" [.d (.str t.sh)] = .ok (.d t.d) [some (.d (.str t.sh))] := by
  have sl := sh_len t ho hw
  have xl : t.sh.length ≤ 80000 := by omega
  have wi := words_in_eq (n + 4 + 3 * c) t.sh (by omega)
  have wl := wds_len t.sh
  have wt : (wdsOf t.sh).map tl = t.tkn := wds_tree t ho hw ht
  obtain ⟨W, hW⟩ : ∃ W, W = wdsOf t.sh := ⟨_, rfl⟩
  rw [← hW] at wi wl wt
  have ro := one_eq W (by omega) c (n + 3) t 64 ho hw ht hd (by omega) (by omega) hs 0 [] ⟨[], by rw [List.drop_zero, wt]; simp⟩
  have it := tree_ok (n + 3 * c) t ho hw ht (by omega) (by omega)
  have sh := show_eq c (n + 5 + c) t ho hw hd hs
  have ri := rinit_eq (n + 3 + 3 * c) W
  have ds : den (n + 5 + 3 * c) "Reading" = den (n + 4 + 3 * c) "Reading.__init__" := by
    rw [show n + 5 + 3 * c = n + 4 + 3 * c + 1 by omega]; exact den_Reading _
  rw [show n + 3 + 3 * c + 1 = n + 4 + 3 * c by omega] at ri
  rw [← ds] at ri
  rw [show n + 4 + 3 * c + 1 = n + 5 + 3 * c by omega] at wi
  rw [show n + 3 + 2 + 3 * c = n + 5 + 3 * c by omega] at ro
  rw [show n + 3 * c + 5 = n + 5 + 3 * c by omega] at it
  rw [show n + 5 + c + 2 * c = n + 5 + 3 * c by omega] at sh
  rw [show n + 6 + 3 * c = n + 5 + 3 * c + 1 by omega]
  refine eq_of_wp ?_
  rw [den_read_tree]
  refine run_wp rfl ?_
  unfold b_read_tree
  obtain ⟨K, hK⟩ : ∃ K, K = n + 5 + 3 * c := ⟨_, rfl⟩
  rw [← hK] at ri wi ro it sh ⊢
  obtain ⟨x, hx⟩ : ∃ x, x = t.sh := ⟨_, rfl⟩
  rw [← hx] at wi sh ⊢
  obtain ⟨td, htd⟩ : ∃ td, td = t.d := ⟨_, rfl⟩
  rw [← htd] at ro it sh ⊢
  obtain ⟨e, he⟩ : ∃ e, e = 0 + t.tkn.length := ⟨_, rfl⟩
  rw [← he] at ro
  have eO : ∀ r, rdO W r = .ob "Reading" ["words", "read"] [.d (.lst (W.map .str)), .d (.int (r : Int))] := fun r => rfl
  rw [eO] at ri
  rw [eO, eO] at ro
  obtain ⟨L, hL⟩ : ∃ L, L = W.map D.str := ⟨_, rfl⟩
  rw [← hL] at ri ro wi
  obtain ⟨p0, hp0⟩ : ∃ q : D, q = .int ((0 : Nat) : Int) := ⟨_, rfl⟩
  obtain ⟨p1, hp1⟩ : ∃ q : D, q = .int (e : Int) := ⟨_, rfl⟩
  rw [← hp0] at ri
  rw [← hp0, ← hp1] at ro
  simp -dsimp [List.replicate, ri, wi, ro, it, sh, isiK, c_MOST_DEPTH]
/-! repr tells plain trees apart -/
mutual
noncomputable def D.qm : D → Bool
  | .bl _ => true
  | .int i => decide (0 ≤ i ∧ i ≤ 1000000000)
  | .str x => pcs x
  | .tup xs => D.qms xs
  | _ => false
noncomputable def D.qms : List D → Bool
  | [] => true
  | x :: xs => D.qm x && D.qms xs
end
mutual
noncomputable def rs : D → List Nat
  | .bl b => if b = true then [84, 114, 117, 101] else [70, 97, 108, 115, 101]
  | .int i => tl (num i)
  | .str x => 39 :: (tl x ++ [39])
  | .tup xs => 40 :: rsT xs 0
  | _ => []
noncomputable def rsT : List D → Nat → List Nat
  | [], k => if k = 1 then [44, 41] else [41]
  | x :: xs, k => (if k = 0 then [] else [44, 32]) ++ (rs x ++ rsT xs (k + 1))
end
theorem reprChar_pc1 {q c : Nat} (hq : q = 34 ∨ q = 39) (h : pc c = true) : Builtin.Str.reprChar q c = [c] := by
  obtain ⟨h1, h2, h3⟩ := pc_rng h
  have hp := pc_print c h2 h
  unfold Builtin.Str.reprChar
  have e1 : (c == q || c == 92) = false := by
    rw [Bool.or_eq_false_iff]
    constructor
    · simp; omega
    · simp; omega
  have e2 : (c == 10) = false := by simp; omega
  have e3 : (c == 13) = false := by simp; omega
  have e4 : (c == 9) = false := by simp; omega
  dsimp only
  rw [e1, e2, e3, e4, hp]
  rfl
theorem rt_tl (x : Str) (h : pcs x = true) : tl (reprText x) = 39 :: (tl x ++ [39]) := by
  have h39 : 39 ∉ tl x := fun hm => by
    have := (pc_rng (List.all_eq_true.mp h 39 hm)).1
    omega
  have hq : reprQuote x = 39 := by
    unfold reprQuote
    have e : x.cps.contains 39 = false := by
      cases hc : x.cps.contains 39 with
      | false => rfl
      | true => exact absurd (show 39 ∈ tl x from Array.mem_toList_iff.mpr (by simpa using hc)) h39
    rw [e]
    rfl
  have key : ∀ (l : List Nat) (out : Array Nat), (∀ c ∈ l, pc c = true) → (l.foldl (fun out c => out ++ (Builtin.Str.reprChar 39 c).toArray) out).toList = out.toList ++ l := by
    intro l
    induction l with
    | nil => intro out _; simp
    | cons c l ih =>
      intro out hl
      rw [List.foldl_cons, ih _ fun d hd => hl d (List.mem_cons_of_mem _ hd), reprChar_pc1 (.inr rfl) (hl c (List.mem_cons_self ..))]
      simp
  unfold reprText
  rw [hq, ← Array.foldl_toList]
  show (Array.push _ 39).toList = _
  rw [Array.toList_push, show x.cps.toList = tl x from rfl, key _ _ (List.all_eq_true.mp h)]
  rfl
theorem rsT_2 : ∀ (xs : List D) (k : Nat), 2 ≤ k → rsT xs k = xs.flatMap (fun x => [44, 32] ++ rs x) ++ [41]
  | [], k, h => by
    unfold rsT
    rw [if_neg (by omega)]
    rfl
  | x :: xs, k, h => by
    unfold rsT
    rw [if_neg (by omega), rsT_2 xs (k + 1) (by omega), List.flatMap_cons]
    simp
theorem joinL_flat (s x : List Nat) : ∀ ys : List (List Nat), TL.joinL s (x :: ys) = x ++ ys.flatMap (fun y => s ++ y)
  | [] => by simp [TL.joinL]
  | y :: ys => by
    have ih := joinL_flat s y ys
    have e : TL.joinL s (x :: y :: ys) = x ++ (s ++ TL.joinL s (y :: ys)) := by simp [TL.joinL]
    rw [e, ih, List.flatMap_cons]
    simp
mutual
theorem rp_rs : ∀ d : D, d.qm = true → tl d.py.shown = rs d
  | .bl b, _ => by
    show tl (PyData.bool b).shown = _
    rw [PyData.shown_bool]
    cases b <;> (unfold rs; decide +kernel)
  | .int i, h => by
    show tl (PyData.int i).shown = _
    rw [PyData.shown_int]
    unfold rs
    rfl
  | .str x, h => by
    show tl (PyData.str x).shown = _
    rw [PyData.shown_str, rt_tl x h]
    unfold rs
    rfl
  | .tup xs, h => by
    show tl (PyData.tuple (D.pys xs)).shown = _
    have ih := rp_rss xs h
    have ec : tl (", " : Str) = [44, 32] := by decide +kernel
    have eo : tl ("(" : Str) = [40] := by decide +kernel
    have tj : tl (Str.join ", " (PyData.shownAll (D.pys xs))) = TL.joinL (tl (", " : Str)) ((PyData.shownAll (D.pys xs)).map tl) := TL.tl_join _ _
    rw [PyData.shown_tuple, tl_app, tl_app, tj, eo, ih, ec]
    have lp : (D.pys xs).length = xs.length := by
      have : ∀ xs : List D, (D.pys xs).length = xs.length := by
        intro xs
        induction xs with
        | nil => rfl
        | cons x xs ih => exact congrArg (· + 1) ih
      exact this xs
    rw [lp]
    unfold rs
    cases xs with
    | nil =>
      unfold rsT
      decide +kernel
    | cons x xs =>
      rw [List.map_cons, joinL_flat]
      unfold rsT
      cases xs with
      | nil =>
        unfold rsT
        have e : tl ((if ([x] : List D).length == 1 then ",)" else ")" : String) : Str) = [44, 41] := by
          show tl (",)" : Str) = _
          decide +kernel
        rw [e]
        simp
      | cons y ys =>
        unfold rsT
        rw [rsT_2 ys _ (by omega)]
        have e : tl ((if ((x :: y :: ys) : List D).length == 1 then ",)" else ")" : String) : Str) = [41] := by
          have : ((x :: y :: ys) : List D).length ≠ 1 := by simp
          rw [if_neg (by simpa using this)]
          decide +kernel
        rw [e]
        simp [List.flatMap_map]
  | .non, h => by cases h
  | .lst _, h => by cases h
theorem rp_rss : ∀ xs : List D, D.qms xs = true → (PyData.shownAll (D.pys xs)).map tl = xs.map rs
  | [], _ => by
    show (PyData.shownAll []).map tl = _
    rw [PyData.shownAll_nil]
    rfl
  | x :: xs, h => by
    have h : (D.qm x && D.qms xs) = true := h
    rw [Bool.and_eq_true] at h
    show (PyData.shownAll (D.py x :: D.pys xs)).map tl = _
    rw [PyData.shownAll_cons, List.map_cons, List.map_cons, rp_rs x h.1, rp_rss xs h.2]
end
/-! what repr tells can be read one way -/
noncomputable def Dl (u : List Nat) : Prop := ∀ c, u.head? = some c → c = 44 ∨ c = 41
theorem span39 : ∀ (a b u v : List Nat), 39 ∉ a → 39 ∉ b → a ++ 39 :: u = b ++ 39 :: v → a = b ∧ u = v
  | [], [], u, v, _, _, h => ⟨rfl, by injection h⟩
  | [], d :: b, u, v, _, hb, h => by
    injection h with h _
    exact absurd (by rw [h]; simp) hb
  | c :: a, [], u, v, ha, _, h => by
    injection h with h _
    exact absurd (by rw [h]; simp) ha
  | c :: a, d :: b, u, v, ha, hb, h => by
    injection h with h1 h2
    obtain ⟨e1, e2⟩ := span39 a b u v (fun h => ha (List.mem_cons_of_mem _ h)) (fun h => hb (List.mem_cons_of_mem _ h)) h2
    exact ⟨by rw [h1, e1], e2⟩
theorem spanD : ∀ (a b u v : List Nat), (∀ c ∈ a, 48 ≤ c ∧ c ≤ 57) → (∀ c ∈ b, 48 ≤ c ∧ c ≤ 57) → Dl u → Dl v → a ++ u = b ++ v → a = b ∧ u = v
  | [], [], u, v, _, _, _, _, h => ⟨rfl, h⟩
  | [], d :: b, u, v, _, hb, hu, _, h => by
    have := hu d (by rw [show u = d :: (b ++ v) from h]; rfl)
    have := hb d (by simp)
    omega
  | c :: a, [], u, v, ha, _, _, hv, h => by
    have := hv c (by rw [show v = c :: (a ++ u) from h.symm]; rfl)
    have := ha c (by simp)
    omega
  | c :: a, d :: b, u, v, ha, hb, hu, hv, h => by
    injection h with h1 h2
    obtain ⟨e1, e2⟩ := spanD a b u v (fun c h => ha c (List.mem_cons_of_mem _ h)) (fun c h => hb c (List.mem_cons_of_mem _ h)) hu hv h2
    exact ⟨by rw [h1, e1], e2⟩
theorem num_text {i : Int} (h : 0 ≤ i ∧ i ≤ 1000000000) : PySem.intText? (num i) = some i := by
  have l10 := num_10 h
  obtain ⟨k, rfl⟩ := Int.eq_ofNat_of_zero_le h.1
  refine TL.int_num ?_
  have : (num (k : Int)).length = (TL.numL k).length := by
    rw [tl_len]
    unfold num
    rw [show tl (Str.ofString (toString (k : Int))) = TL.numL k from TL.tl_num k]
  omega
theorem rs_bl (b : Bool) : rs (.bl b) = if b = true then [84, 114, 117, 101] else [70, 97, 108, 115, 101] := by unfold rs; rfl
theorem rs_int (i : Int) : rs (.int i) = tl (num i) := by unfold rs; rfl
theorem rs_str (x : Str) : rs (.str x) = 39 :: (tl x ++ [39]) := by unfold rs; rfl
theorem rs_tup (xs : List D) : rs (.tup xs) = 40 :: rsT xs 0 := by conv => lhs; unfold rs
theorem rsT_n (k : Nat) : rsT [] k = if k = 1 then [44, 41] else [41] := by unfold rsT; rfl
theorem rsT_c (x : D) (xs : List D) (k : Nat) : rsT (x :: xs) k = (if k = 0 then [] else [44, 32]) ++ (rs x ++ rsT xs (k + 1)) := by conv => lhs; unfold rsT
/-- the kinds, by how they begin -/
noncomputable def kdN : D → Nat
  | .bl _ => 1
  | .int _ => 2
  | .str _ => 3
  | .tup _ => 4
  | _ => 0
noncomputable def kdC (c : Nat) : Nat := if c = 84 ∨ c = 70 then 1 else if 48 ≤ c ∧ c ≤ 57 then 2 else if c = 39 then 3 else if c = 40 then 4 else 0
theorem rs_hd (d : D) (h : d.qm = true) : ∃ c l, rs d = c :: l ∧ kdC c = kdN d ∧ c ≠ 41 ∧ c ≠ 44 := by
  cases d with
  | bl b => cases b <;> exact ⟨_, _, by rw [rs_bl]; rfl, by decide, by decide, by decide⟩
  | int i =>
    have h : 0 ≤ i ∧ i ≤ 1000000000 := of_decide_eq_true h
    have hd := num_d h.1
    have h0 := num_ne0 h.1
    rw [rs_int]
    cases he : tl (num i) with
    | nil => exact absurd he h0
    | cons c l =>
      have := hd c (by rw [he]; simp)
      refine ⟨c, l, rfl, ?_, by omega, by omega⟩
      unfold kdC
      rw [if_neg (by omega), if_pos this]
      rfl
  | str x => exact ⟨39, _, rs_str x, by show kdC 39 = 3; decide, by decide, by decide⟩
  | tup xs => exact ⟨40, _, rs_tup xs, by show kdC 40 = 4; decide, by decide, by decide⟩
  | _ => cases h
theorem rsT_dl (xs : List D) (k : Nat) (hk : 1 ≤ k) (u : List Nat) : Dl (rsT xs k ++ u) := by
  intro c hc
  cases xs with
  | nil =>
    rw [rsT_n] at hc
    by_cases h : k = 1
    · rw [if_pos h] at hc; injection hc with hc; exact .inl hc.symm
    · rw [if_neg h] at hc; injection hc with hc; exact .inr hc.symm
  | cons x xs =>
    rw [rsT_c, if_neg (by omega)] at hc
    injection hc with hc; exact .inl hc.symm
mutual
theorem rs_inj : ∀ d e : D, d.qm = true → e.qm = true → ∀ u v, Dl u → Dl v → rs d ++ u = rs e ++ v → d = e ∧ u = v
  | d, e, hd, he, u, v, hu, hv, h => by
    obtain ⟨c1, l1, e1, k1, _, _⟩ := rs_hd d hd
    obtain ⟨c2, l2, e2, k2, _, _⟩ := rs_hd e he
    have hk : kdN d = kdN e := by
      rw [e1, e2] at h
      injection h with h _
      rw [← k1, ← k2, h]
    cases d with
    | bl a =>
      cases e with
      | bl b =>
        rw [rs_bl, rs_bl] at h
        cases a <;> cases b
        · exact ⟨rfl, by simpa using h⟩
        · simp at h
        · simp at h
        · exact ⟨rfl, by simpa using h⟩
      | _ => first | (exact absurd hk (fun h => by cases h)) | (exact absurd he (fun h => by cases h))
    | int i =>
      cases e with
      | int j =>
        have hi : 0 ≤ i ∧ i ≤ 1000000000 := of_decide_eq_true hd
        have hj : 0 ≤ j ∧ j ≤ 1000000000 := of_decide_eq_true he
        rw [rs_int, rs_int] at h
        obtain ⟨e1, e2⟩ := spanD _ _ u v (num_d hi.1) (num_d hj.1) hu hv h
        have e3 : num i = num j := tl_ext e1
        have t1 := num_text hi
        rw [e3, num_text hj] at t1
        injection t1 with t1
        exact ⟨by rw [t1], e2⟩
      | _ => first | (exact absurd hk (fun h => by cases h)) | (exact absurd he (fun h => by cases h))
    | str x =>
      cases e with
      | str y =>
        rw [rs_str, rs_str] at h
        have n39 : ∀ x : Str, pcs x = true → 39 ∉ tl x := fun x hx hm => by
          have := (pc_rng (List.all_eq_true.mp hx 39 hm)).1
          omega
        injection h with _ h
        have h : (tl x ++ [39]) ++ u = (tl y ++ [39]) ++ v := h
        rw [List.append_assoc, List.append_assoc] at h
        obtain ⟨e1, e2⟩ := span39 (tl x) (tl y) u v (n39 x hd) (n39 y he) h
        have : x = y := tl_ext e1
        exact ⟨by rw [this], e2⟩
      | _ => first | (exact absurd hk (fun h => by cases h)) | (exact absurd he (fun h => by cases h))
    | tup xs =>
      cases e with
      | tup ys =>
        rw [rs_tup, rs_tup] at h
        injection h with _ h
        obtain ⟨e1, e2⟩ := rsT_inj xs ys hd he 0 u v hu hv h
        exact ⟨by rw [e1], e2⟩
      | _ => first | (exact absurd hk (fun h => by cases h)) | (exact absurd he (fun h => by cases h))
    | _ => cases hd
theorem rsT_inj : ∀ xs ys : List D, D.qms xs = true → D.qms ys = true → ∀ (k : Nat) (u v : List Nat), Dl u → Dl v → rsT xs k ++ u = rsT ys k ++ v → xs = ys ∧ u = v
  | [], [], _, _, k, u, v, _, _, h => ⟨rfl, List.append_cancel_left h⟩
  | [], y :: ys, _, hy, k, u, v, _, _, h => by
    exfalso
    have hy : (D.qm y && D.qms ys) = true := hy
    rw [Bool.and_eq_true] at hy
    obtain ⟨c, l, e, _, n1, n2⟩ := rs_hd y hy.1
    rw [rsT_n, rsT_c, e] at h
    by_cases k0 : k = 0
    · subst k0
      injection h with h _
      exact n1 h.symm
    · rw [if_neg k0] at h
      by_cases k1 : k = 1
      · rw [if_pos k1] at h
        injection h with _ h
        injection h with h _
        cases h
      · rw [if_neg k1] at h
        injection h with h _
        cases h
  | x :: xs, [], hx, _, k, u, v, _, _, h => by
    exfalso
    have hx : (D.qm x && D.qms xs) = true := hx
    rw [Bool.and_eq_true] at hx
    obtain ⟨c, l, e, _, n1, n2⟩ := rs_hd x hx.1
    rw [rsT_n, rsT_c, e] at h
    by_cases k0 : k = 0
    · subst k0
      injection h with h _
      exact n1 h
    · rw [if_neg k0] at h
      by_cases k1 : k = 1
      · rw [if_pos k1] at h
        injection h with _ h
        injection h with h _
        cases h
      · rw [if_neg k1] at h
        injection h with h _
        cases h
  | x :: xs, y :: ys, hx, hy, k, u, v, hu, hv, h => by
    have hx : (D.qm x && D.qms xs) = true := hx
    have hy : (D.qm y && D.qms ys) = true := hy
    rw [Bool.and_eq_true] at hx hy
    rw [rsT_c, rsT_c] at h
    simp only [List.append_assoc] at h
    have h := List.append_cancel_left h
    obtain ⟨e1, e2⟩ := rs_inj x y hx.1 hy.1 _ _ (rsT_dl xs (k + 1) (by omega) u) (rsT_dl ys (k + 1) (by omega) v) h
    obtain ⟨e3, e4⟩ := rsT_inj xs ys hx.2 hy.2 (k + 1) u v hu hv e2
    exact ⟨by rw [e1, e3], e4⟩
end
theorem rp_inj (d e : D) (hd : d.qm = true) (he : e.qm = true) (h : rp d = rp e) : d = e := by
  have e1 := rp_rs d hd
  have e2 := rp_rs e he
  have h : d.py.shown = e.py.shown := h
  rw [h, e2] at e1
  have n0 : Dl [] := fun c hc => by cases hc
  exact (rs_inj d e hd he [] [] n0 n0 (by rw [e1])).1
/-! data of trees, for repr -/
theorem qm_bl (b : Bool) : D.qm (.bl b) = true := (rfl)
theorem qm_int (i : Int) : D.qm (.int i) = decide (0 ≤ i ∧ i ≤ 1000000000) := (rfl)
theorem qm_str (x : Str) : D.qm (.str x) = pcs x := (rfl)
theorem qm_tup (xs : List D) : D.qm (.tup xs) = D.qms xs := (rfl)
theorem qms_n : D.qms [] = true := (rfl)
theorem qms_c (x : D) (xs : List D) : D.qms (x :: xs) = (D.qm x && D.qms xs) := (rfl)
theorem qms_app (xs ys : List D) : D.qms (xs ++ ys) = (D.qms xs && D.qms ys) := by
  induction xs with
  | nil => rfl
  | cons x xs ih =>
    show (D.qm x && D.qms (xs ++ ys)) = (D.qm x && D.qms xs && D.qms ys)
    rw [ih, Bool.and_assoc]
theorem prs_qm : ∀ {ws : List Str} {ds : List D}, ds.length = ws.length → (∀ v ∈ ws, Wd v) → D.qms ds = true → D.qms (prs ws ds) = true
  | [], [], _, _, _ => rfl
  | w :: ws, d :: ds, h, hw, hd => by
    have hd : (D.qm d && D.qms ds) = true := hd
    rw [Bool.and_eq_true] at hd
    have ih := prs_qm (ws := ws) (ds := ds) (by simpa using h) (fun v hv => hw v (List.mem_cons_of_mem _ hv)) hd.2
    have h1 := (hw w (List.mem_cons_self ..)).1
    show ((pcs w && (D.qm d && true)) && D.qms (prs ws ds)) = true
    rw [h1, hd.1, ih]
    rfl
theorem mk_qm (k : Kd) (ds : List D) (h : k.ar ds.length) (hw : k.wk) (hd : D.qms ds = true) : (k.mk ds).qm = true := by
  obtain ⟨n1, n2, n3, n4, n5, n6, n7, n8, n9, n10, n11, n12, n13, n14, n15⟩ := nmp
  have ii : ∀ i : Int, 0 ≤ i ∧ i ≤ 1000000000 → decide (0 ≤ i ∧ i ≤ 1000000000) = true := fun i hi => decide_eq_true hi
  cases k with
  | num i => show D.qm (.tup [.str "number", .int i]) = true; simp only [qm_tup, qms_c, qm_str, qm_int, qms_n, n1, ii i hw]; rfl
  | tru b => show D.qm (.tup [.str "truth", .bl b]) = true; simp only [qm_tup, qms_c, qm_str, qm_bl, qms_n, n2]; rfl
  | nam w => show D.qm (.tup [.str "name", .str w]) = true; simp only [qm_tup, qms_c, qm_str, qms_n, n3, hw.1]; rfl
  | rai w => show D.qm (.tup [.str "raise", .str w]) = true; simp only [qm_tup, qms_c, qm_str, qms_n, n4, hw.1]; rfl
  | do_ w => show D.qm (.tup (.str "do" :: .str w :: ds)) = true; simp only [qm_tup, qms_c, qm_str, n5, hw.1, hd]; rfl
  | let_ w => show D.qm (.tup (.str "let" :: .str w :: ds)) = true; simp only [qm_tup, qms_c, qm_str, n6, hw.1, hd]; rfl
  | pick i => show D.qm (.tup (.str "pick" :: .int i :: ds)) = true; simp only [qm_tup, qms_c, qm_str, qm_int, n7, ii i hw, hd]; rfl
  | mark i => show D.qm (.tup (.str "mark" :: .int i :: ds)) = true; simp only [qm_tup, qms_c, qm_str, qm_int, n8, ii i hw, hd]; rfl
  | many => show D.qm (.tup (.str "many" :: ds)) = true; simp only [qm_tup, qms_c, qm_str, n9, hd]; rfl
  | iff => show D.qm (.tup (.str "if" :: ds)) = true; simp only [qm_tup, qms_c, qm_str, n10, hd]; rfl
  | parts => show D.qm (.tup [.str "parts", .tup ds]) = true; simp only [qm_tup, qms_c, qm_str, qms_n, n11, hd]; rfl
  | loop w w2 =>
    obtain ⟨a, b, c, rfl⟩ := len3 (show ds.length = 3 from h)
    simp only [qms_c, qms_n, Bool.and_true, Bool.and_eq_true] at hd
    show D.qm (.tup [.str "loop", .str w, a, .str w2, b, c]) = true
    simp only [qm_tup, qms_c, qm_str, qms_n, n12, hw.1.1, hw.2.1, hd.1, hd.2.1, hd.2.2]; rfl
  | try_ w =>
    obtain ⟨a, b, rfl⟩ := len2 (show ds.length = 2 from h)
    simp only [qms_c, qms_n, Bool.and_true, Bool.and_eq_true] at hd
    show D.qm (.tup [.str "try", a, .str w, b]) = true
    simp only [qm_tup, qms_c, qm_str, qms_n, n13, hw.1, hd.1, hd.2]; rfl
  | call w => show D.qm (.tup [.str "call", .str w, .tup ds]) = true; simp only [qm_tup, qms_c, qm_str, qms_n, n14, hw.1, hd]; rfl
  | melt w ws =>
    obtain ⟨h1, h2⟩ : ds.length = ws.length + 1 ∧ ws.length ≤ 1000 := h
    obtain ⟨xs, l, rfl, hx⟩ := snoc_of h1
    rw [qms_app, Bool.and_eq_true] at hd
    have hp := prs_qm hx hw.2 hd.1
    have hl : D.qm l = true := by have := hd.2; rw [qms_c, qms_n, Bool.and_true] at this; exact this
    rw [mk_melt hx]
    simp only [qm_tup, qms_c, qm_str, qms_n, n15, hw.1.1, hp, hl]; rfl
mutual
theorem tr_qm : ∀ t : Tr, t.ok → t.wk → t.d.qm = true
  | .nd k xs, h, hw => by
    obtain ⟨ha, ho⟩ : k.ar xs.length ∧ Tr.oks xs := h
    obtain ⟨kw, xw⟩ : k.wk ∧ Tr.wks xs := hw
    exact mk_qm k (Tr.ds xs) (by rw [ds_len]; exact ha) kw (trs_qm xs ho xw)
theorem trs_qm : ∀ xs : List Tr, Tr.oks xs → Tr.wks xs → D.qms (Tr.ds xs) = true
  | [], _, _ => rfl
  | x :: xs, ⟨h1, h2⟩, ⟨w1, w2⟩ => by
    show (D.qm x.d && D.qms (Tr.ds xs)) = true
    rw [tr_qm x h1 w1, trs_qm xs h2 w2]
    rfl
end
theorem sh_of_d (a b : Tr) (ha : a.ok ∧ a.wk) (hb : b.ok ∧ b.wk) (hd : a.dep ≤ 64 ∧ b.dep ≤ 64) (hs : a.sz ≤ 1000 ∧ b.sz ≤ 1000) (h : a.d = b.d) : a.sh = b.sh := by
  have e1 := show_eq 64 0 a ha.1 ha.2 hd.1 hs.1
  have e2 := show_eq 64 0 b hb.1 hb.2 hd.2 hs.2
  rw [h, e2] at e1
  injection e1 with e1 _
  injection e1 with e1
  injection e1 with e1
  exact e1.symm
theorem d_of_sh (a b : Tr) (ha : a.ok ∧ a.wk ∧ a.tk) (hb : b.ok ∧ b.wk ∧ b.tk) (hd : a.dep ≤ 64 ∧ b.dep ≤ 64) (hs : a.sz ≤ 1000 ∧ b.sz ≤ 1000) (h : a.sh = b.sh) : a.d = b.d := by
  have e1 := read_tree_eq 0 64 a ha.1 ha.2.1 ha.2.2 hd.1 (by decide) hs.1
  have e2 := read_tree_eq 0 64 b hb.1 hb.2.1 hb.2.2 hd.2 (by decide) hs.2
  rw [h, e2] at e1
  injection e1 with e1 _
  injection e1 with e1
  exact e1.symm
theorem rp_sh (a b : Tr) (ha : a.ok ∧ a.wk ∧ a.tk) (hb : b.ok ∧ b.wk ∧ b.tk) (hd : a.dep ≤ 64 ∧ b.dep ≤ 64) (hs : a.sz ≤ 1000 ∧ b.sz ≤ 1000) : (rp a.d == rp b.d) = (a.sh == b.sh) := by
  rw [Bool.eq_iff_iff, beq_iff_eq, beq_iff_eq]
  constructor
  · intro h
    exact sh_of_d a b ⟨ha.1, ha.2.1⟩ ⟨hb.1, hb.2.1⟩ hd hs (rp_inj _ _ (tr_qm a ha.1 ha.2.1) (tr_qm b hb.1 hb.2.1) h)
  · intro h
    rw [d_of_sh a b ha hb hd hs h]
theorem len4 {α : Type} {xs : List α} (h : xs.length = 4) : ∃ a b c d, xs = [a, b, c, d] := by
  match xs, h with
  | [a, b, c, d], _ => exact ⟨a, b, c, d, rfl⟩
theorem len5 {α : Type} {xs : List α} (h : xs.length = 5) : ∃ a b c d e, xs = [a, b, c, d, e] := by
  match xs, h with
  | [a, b, c, d, e], _ => exact ⟨a, b, c, d, e, rfl⟩
theorem rp_tr {t : Tr} (hT : Good t) : reprD t.d = some (.d (.str (rp t.d))) := by
  have := hT.rp
  cases t with
  | nd k xs =>
    have e : ∀ ds, ∃ es, k.mk ds = .tup es := by intro ds; cases k <;> exact ⟨_, rfl⟩
    obtain ⟨es, e⟩ := e (Tr.ds xs)
    have e : (Tr.nd k xs).d = .tup es := e
    rw [e] at this ⊢
    rw [reprD_t, if_pos this]
/-- a tree that is asked of -/
structure Ak (t : Tr) : Prop where
  ok : t.ok
  wk : t.wk
  tk : t.tk
  dep : t.dep ≤ 9
  sz : t.sz ≤ 200
theorem melt_ak {a b c : Str} (ha : Wd a) (hb : Wd b) (hc : Wd c) (wa : wordB a = true) (wb : wordB b = true) (wc : wordB c = true) (hbc : b ≠ c) {x y z : Tr} (hx : x.ok ∧ x.wk ∧ x.tk ∧ x.dep ≤ 8 ∧ x.sz ≤ 40) (hy : y.ok ∧ y.wk ∧ y.tk ∧ y.dep ≤ 8 ∧ y.sz ≤ 40) (hz : z.ok ∧ z.wk ∧ z.tk ∧ z.dep ≤ 8 ∧ z.sz ≤ 40) : Ak (.nd (.melt a [b, c]) [x, y, z]) where
  ok := ⟨⟨rfl, by show 2 ≤ 1000; omega⟩, hx.1, hy.1, hz.1, trivial⟩
  wk := ⟨⟨ha, fun v hv => by
    simp only [List.mem_cons, List.not_mem_nil, or_false] at hv
    rcases hv with e | e <;> rw [e] <;> assumption⟩, hx.2.1, hy.2.1, hz.2.1, trivial⟩
  tk := ⟨⟨wa, fun v hv => by
    simp only [List.mem_cons, List.not_mem_nil, or_false] at hv
    rcases hv with e | e <;> rw [e] <;> assumption, by simp [hbc], by show 2 ≤ 4; omega⟩, hx.2.2.1, hy.2.2.1, hz.2.2.1, trivial⟩
  dep := by
    have h1 := hx.2.2.2.1
    have h2 := hy.2.2.2.1
    have h3 := hz.2.2.2.1
    show max x.dep (max y.dep (max z.dep 0)) + 1 ≤ 9
    omega
  sz := by
    have h1 := hx.2.2.2.2
    have h2 := hy.2.2.2.2
    have h3 := hz.2.2.2.2
    show x.sz + (y.sz + (z.sz + 0)) + 1 ≤ 200
    omega
theorem main (ns : List Int) (hl : ns.length ≤ 63) : ∃ fin, g_law (den 100) [.d (scrD ns)] = .ok (.d (.bl true)) fin := by
  obtain ⟨g, hg, hb⟩ := bag_eq (den 99) ns hl
  suffices h : (g_law (den 100) [.d (scrD ns)]).wp fun r _ => r = .d (.bl true) by
    obtain ⟨a, S, e, h⟩ := CR.wp_ok h
    exact ⟨S, by rw [e, h]⟩
  refine run_wp rfl ?_
  unfold b_law
  have dt : den 100 "_law_take" = g__law_take (den 99) := den__law_take 99
  simp -dsimp [List.replicate, den__law_bag, hb]
  refine words_wp 98 g hg fun ws g hw5 hw hwb hnd _ hg => ?_
  simp -dsimp
  obtain ⟨g0, hg0⟩ : ∃ g0, g0 = g := ⟨_, rfl⟩
  rw [← hg0]
  rw [← hg0] at hg
  obtain ⟨I, hI⟩ : ∃ I : List D → List D → SS → Prop, I = fun ds acc S => ∃ (g : Bag) (ts : List Tr) (s8 : Option Ev.M), g.Ok ∧ acc = Tr.ds ts ∧ (∀ t ∈ ts, t.ok ∧ t.wk ∧ t.tk ∧ t.dep ≤ 8 ∧ t.sz ≤ 40) ∧ ts.length + ds.length = 4 ∧
      S = [some (.d (scrD ns)), some g.enc, some (.lst (ws.map .str)), none, none, none, s8, none, none, none] := ⟨_, rfl⟩
  refine wp_lc (ds := rangeD 0 4) (S1 := [some (.d (scrD ns)), some g0.enc, some (.lst (ws.map .str)), none, none, none, none, none, none, none]) I (by simp -dsimp) (by
      rw [hI]
      exact ⟨g0, [], _, hg, rfl, by simp, by unfold rangeD; simp, rfl⟩) ?_ ?_
  · intro d ds acc S hS
    rw [hI] at hS
    obtain ⟨g, ts, s8, hg, rfl, ht, tl, rfl⟩ := hS
    rw [List.length_cons] at tl
    refine ⟨[some (.d (scrD ns)), some g.enc, some (.lst (ws.map .str)), none, none, none, some (.d d), none, none, none], rfl, ?_⟩
    simp -dsimp [tTrue, dt]
    refine take_wp _ g _ hg (by decide) (by decide) fun u g u0 u1 hg => ?_
    obtain ⟨r, r0, r1, er⟩ : ∃ r : Int, 0 ≤ r ∧ r ≤ 40 ∧ atI [D.int 4, .int 12, .int 40] u = some (.int r) := by
      have : u = 0 ∨ u = 1 ∨ u = 2 := by omega
      rcases this with e | e | e <;> subst e
      · exact ⟨4, by omega, by omega, atI_ok (by decide) rfl⟩
      · exact ⟨12, by omega, by omega, atI_ok (by decide) rfl⟩
      · exact ⟨40, by omega, by omega, atI_ok (by decide) rfl⟩
    simp -dsimp [dt, er]
    refine take_wp _ g _ hg (by decide) (by decide) fun w g w0 w1 hg => ?_
    obtain ⟨q, hq⟩ : ∃ q : Int, q = 2 + w := ⟨_, rfl⟩
    have hA : AnyOk (den 100) ws q := any_wp ws hw5 hw hwb hnd 62 35 q (by omega) (by omega)
    simp -dsimp [← hq]
    refine hA g r _ hg r0 (by omega) fun t g tok twk ttk tdp tsz hg => ?_
    simp -dsimp [show (Tr.ds ts).length < 16777216 by rw [ds_len]; omega]
    refine ⟨_, _, ⟨rfl, rfl⟩, ?_⟩
    rw [hI]
    refine ⟨g, ts ++ [t], some (.d d), hg, by rw [ds_app]; rfl, fun x hx => ?_, by rw [List.length_append, List.length_singleton]; omega, rfl⟩
    rcases List.mem_append.mp hx with hx | hx
    · exact ht x hx
    · rw [List.mem_singleton.mp hx]
      exact ⟨tok, twk, ttk, by omega, by omega⟩
  intro acc S hS
  rw [hI] at hS
  obtain ⟨g, ts, s8, hg, rfl, ht, tl, rfl⟩ := hS
  obtain ⟨t0, t1, t2, t3, rfl⟩ := len4 (show ts.length = 4 by simpa using tl)
  obtain ⟨v0, v1, v2, v3, v4, rfl⟩ := len5 hw5
  rw [show restS [some (.d (scrD ns)), some g0.enc, some (.lst ([v0, v1, v2, v3, v4].map .str)), none, none, none, none, none, none, none] [some (.d (scrD ns)), some g.enc, some (.lst ([v0, v1, v2, v3, v4].map .str)), none, none, none, s8, none, none, none] [6] =
    [some (.d (scrD ns)), some g.enc, some (.lst ([v0, v1, v2, v3, v4].map .str)), none, none, none, none, none, none, none] from rfl]
  have de : Tr.ds [t0, t1, t2, t3] = [t0.d, t1.d, t2.d, t3.d] := rfl
  have h0 := ht t0 (by simp)
  have h1 := ht t1 (by simp)
  have h2 := ht t2 (by simp)
  have h3 := ht t3 (by simp)
  have hbc : v1 ≠ v2 := by
    intro e
    simp [e] at hnd
  have hm := melt_ak (hw v0 (by simp)) (hw v1 (by simp)) (hw v2 (by simp)) (hwb v0 (by simp)) (hwb v1 (by simp)) (hwb v2 (by simp)) hbc h0 h1 h2
  obtain ⟨t4, ht4⟩ : ∃ t4, t4 = Tr.nd (.melt v0 [v1, v2]) [t0, t1, t2] := ⟨_, rfl⟩
  rw [← ht4] at hm
  have d4 : D.tup [.str "melt", .str v0, .tup [.tup [.str v1, t0.d], .tup [.str v2, t1.d]], t2.d] = t4.d := by rw [ht4]; rfl
  have ak : ∀ t, (t.ok ∧ t.wk ∧ t.tk ∧ t.dep ≤ 8 ∧ t.sz ≤ 40) → Ak t := fun t h => ⟨h.1, h.2.1, h.2.2.1, by omega, by omega⟩
  have all : ∀ t ∈ [t0, t1, t2, t3, t4], Ak t := by
    intro t h
    simp only [List.mem_cons, List.not_mem_nil, or_false] at h
    rcases h with e | e | e | e | e <;> rw [e]
    · exact ak _ h0
    · exact ak _ h1
    · exact ak _ h2
    · exact ak _ h3
    · exact hm
  obtain ⟨T, hT⟩ : ∃ T, T = [t0, t1, t2, t3, t4] := ⟨_, rfl⟩
  rw [← hT] at all
  have shw : ∀ t, Ak t → den 100 "_law_shown" [.d t.d] = .ok (.d (.str t.sh)) [some (.d t.d)] := fun t h => lshown_eq 9 90 t h.ok h.wk h.dep (by have := h.sz; omega)
  have dT : [t0.d, t1.d, t2.d, t3.d, t4.d] = Tr.ds T := by rw [hT]; rfl
  have ld : mLc [7] (iSeq (eN 3)) (gN 7) tTrue (eM (mCall (den 100 "_law_shown") (aCons (eN 7) aNil))) [some (.d (scrD ns)), some g.enc, some (.lst [.str v0, .str v1, .str v2, .str v3, .str v4]), some (.lst (Tr.ds T)), none, none, none, none, none, none] =
      .ok (.lst (T.map fun t => D.str t.sh)) [some (.d (scrD ns)), some g.enc, some (.lst [.str v0, .str v1, .str v2, .str v3, .str v4]), some (.d (.lst (Tr.ds T))), none, none, none, none, none, none] := by
    have e2 := mLc_ts (own := [7]) (fi := iSeq (eN 3)) (g := gN 7) (fe := eM (mCall (den 100 "_law_shown") (aCons (eN 7) aNil))) (S := [some (.d (scrD ns)), some g.enc, some (.lst [.str v0, .str v1, .str v2, .str v3, .str v4]), some (.lst (Tr.ds T)), none, none, none, none, none, none]) (S1 := [some (.d (scrD ns)), some g.enc, some (.lst [.str v0, .str v1, .str v2, .str v3, .str v4]), some (.d (.lst (Tr.ds T))), none, none, none, none, none, none]) (ts := T) Tr.d (fun t => .str t.sh) (by rw [← ds_map]; simp -dsimp) (by
      intro t h
      have := shw t (all t h)
      refine ⟨[some (.d (scrD ns)), some g.enc, some (.lst [.str v0, .str v1, .str v2, .str v3, .str v4]), some (.d (.lst (Tr.ds T))), none, none, none, some (.d t.d), none, none], rfl, ?_⟩
      simp -dsimp [this, wipeS]) (by rw [hT]; show 5 ≤ 16777216; decide)
    rw [e2]
    rfl
  simp -dsimp [de, d4, dT, ld]
  obtain ⟨Q, hQ⟩ : ∃ Q, Q = T.map fun t => D.str t.sh := ⟨_, rfl⟩
  rw [← hQ]
  obtain ⟨J, hJ⟩ : ∃ J : SS → Prop, J = fun S => ∃ (s5 s6 s8 s9 : Option Ev.M), S = [some (.d (scrD ns)), some g.enc, some (.lst [.str v0, .str v1, .str v2, .str v3, .str v4]), some (.d (.lst (Tr.ds T))), some (.lst Q), s5, s6, none, s8, s9] := ⟨_, rfl⟩
  have at2 : ∀ k : Int, 0 ≤ k → k < 5 → ∃ t ∈ T, atI (Tr.ds T) k = some t.d ∧ atI Q k = some (.str t.sh) := by
    intro k k0 k1
    have hk : k.toNat < T.length := by rw [hT]; show k.toNat < 5; omega
    refine ⟨T[k.toNat], List.getElem_mem hk, atI_ok k0 ?_, atI_ok k0 ?_⟩
    · rw [ds_map, List.getElem?_map, List.getElem?_eq_getElem hk]; rfl
    · rw [hQ, List.getElem?_map, List.getElem?_eq_getElem hk]; rfl
  refine wp_for1 (fun d => True) J (fun d hd => trivial) (by rw [hJ]; exact ⟨_, _, _, _, rfl⟩) ?_ ?_
  · rintro d S _ hS
    rw [hJ] at hS
    obtain ⟨s5, s6, s8, s9, rfl⟩ := hS
    refine ⟨[some (.d (scrD ns)), some g.enc, some (.lst [.str v0, .str v1, .str v2, .str v3, .str v4]), some (.d (.lst (Tr.ds T))), some (.lst Q), some (.d d), s6, none, s8, s9], rfl, ?_⟩
    simp -dsimp
    refine wp_for1 (fun d => ∃ k : Int, d = .int k ∧ 0 ≤ k ∧ k < 5) J (fun d hd => by
      obtain ⟨k, e, k0, k1⟩ := rangeD_mem _ _ _ hd
      exact ⟨k, e, by omega, by omega⟩) (by rw [hJ]; exact ⟨_, _, _, _, rfl⟩) ?_ ?_
    · rintro d S ⟨k, rfl, k0, k1⟩ hS
      rw [hJ] at hS
      obtain ⟨s5, s6, s8, s9, rfl⟩ := hS
      refine ⟨[some (.d (scrD ns)), some g.enc, some (.lst [.str v0, .str v1, .str v2, .str v3, .str v4]), some (.d (.lst (Tr.ds T))), some (.lst Q), s5, some (.d (.int k)), none, s8, s9], rfl, ?_⟩
      obtain ⟨t, ht, a1, a2⟩ := at2 k k0 k1
      have A := all t ht
      have r1 := rp_tr (t := t) ⟨A.ok, A.wk, by have := A.dep; omega, by have := A.sz; omega⟩
      have s1 : den 100 "show_tree" [.d t.d] = .ok (.d (.str t.sh)) [some (.d t.d)] := show_eq 9 82 t A.ok A.wk A.dep (by have := A.sz; omega)
      have s2 : den 100 "read_tree" [.d (.str t.sh)] = .ok (.d t.d) [some (.d (.str t.sh))] := read_tree_eq 67 9 t A.ok A.wk A.tk A.dep (by decide) (by have := A.sz; omega)
      simp -dsimp [a1, a2, r1, s1, s2, isiK]
      rw [hJ]
      exact ⟨_, _, _, _, rfl⟩
    · intro S hS
      exact hS
  · intro S hS
    rw [hJ] at hS
    obtain ⟨s5, s6, s8, s9, rfl⟩ := hS
    have A0 : Ak t0 := ak _ h0
    obtain ⟨t, ht, a1, a2⟩ := at2 0 (by decide) (by decide)
    have r0 := rp_tr (t := t) ⟨(all t ht).ok, (all t ht).wk, by have := (all t ht).dep; omega, by have := (all t ht).sz; omega⟩
    have lf : mLc [7] (iSeq (eN 3)) (gN 7) tTrue (eM (mBin eqD (eM (mBin eqD (eM (mBlt (on1 reprD) (aCons (eM (mBin ixD (eN 3) (eC (.int 0)))) aNil))) (eM (mBlt (on1 reprD) (aCons (eN 7) aNil))))) (eM (mBin eqD (eM (mBin ixD (eN 4) (eC (.int 0)))) (eM (mCall (den 100 "_law_shown") (aCons (eN 7) aNil))))))) [some (.d (scrD ns)), some g.enc, some (.lst [.str v0, .str v1, .str v2, .str v3, .str v4]), some (.d (.lst (Tr.ds T))), some (.lst Q), s5, s6, none, s8, s9] =
        .ok (.lst ((T.map fun _ => true).map .bl)) [some (.d (scrD ns)), some g.enc, some (.lst [.str v0, .str v1, .str v2, .str v3, .str v4]), some (.d (.lst (Tr.ds T))), some (.lst Q), s5, s6, none, s8, s9] := by
      have e2 := mLc_ts (own := [7]) (fi := iSeq (eN 3)) (g := gN 7) (fe := eM (mBin eqD (eM (mBin eqD (eM (mBlt (on1 reprD) (aCons (eM (mBin ixD (eN 3) (eC (.int 0)))) aNil))) (eM (mBlt (on1 reprD) (aCons (eN 7) aNil))))) (eM (mBin eqD (eM (mBin ixD (eN 4) (eC (.int 0)))) (eM (mCall (den 100 "_law_shown") (aCons (eN 7) aNil))))))) (S := [some (.d (scrD ns)), some g.enc, some (.lst [.str v0, .str v1, .str v2, .str v3, .str v4]), some (.d (.lst (Tr.ds T))), some (.lst Q), s5, s6, none, s8, s9]) (S1 := [some (.d (scrD ns)), some g.enc, some (.lst [.str v0, .str v1, .str v2, .str v3, .str v4]), some (.d (.lst (Tr.ds T))), some (.lst Q), s5, s6, none, s8, s9]) (ts := T) Tr.d (fun t => .bl true) (by rw [← ds_map]; simp -dsimp) (by
        intro u hu
        have B := all u hu
        have A := all t ht
        have := shw u B
        have r1 := rp_tr (t := u) ⟨B.ok, B.wk, by have := B.dep; omega, by have := B.sz; omega⟩
        have key := rp_sh t u ⟨A.ok, A.wk, A.tk⟩ ⟨B.ok, B.wk, B.tk⟩ ⟨by have := A.dep; omega, by have := B.dep; omega⟩ ⟨by have := A.sz; omega, by have := B.sz; omega⟩
        refine ⟨[some (.d (scrD ns)), some g.enc, some (.lst [.str v0, .str v1, .str v2, .str v3, .str v4]), some (.d (.lst (Tr.ds T))), some (.lst Q), s5, s6, some (.d u.d), s8, s9], rfl, ?_⟩
        simp -dsimp [a1, a2, r0, r1, this, key, wipeS]) (by rw [hT]; show 5 ≤ 16777216; decide)
      rw [e2, List.map_map]
      rfl
    have key : (T.map fun _ => true).all id = true := by rw [List.all_map]; simp
    simp -dsimp [-List.map_map, -List.all_map, lf, allD_bls, key]
end Ev
open PySem PySem.W PyProof.Rows
set_option maxHeartbeats 0 in
theorem PySem.Challenge.cw_callmelt_k21_trees_shown_and_read_holds : PySem.Challenge.rw_callmelt_k21_trees_shown_and_read.Holds := by
  w_on; o_law; k_head; (case hw => w_witness2)
  k_fill
  refine Ev.walk_g (l := PySem.Challenge.rw_callmelt_k21_trees_shown_and_read) (n := 63) (k := 100 + 1) (x := "_law_script") (sp := fun w => Ev.spA _ 1 (Ev.g_law (Ev.den 100))) rfl (by decide) rfl ⟨⟨rfl, by decide, by decide⟩, rfl⟩ (fun w h Y => PySem.W.kIn_of Y) ?F (fun _ H a ns hl hO hS => Ev.law_sp hO hS (Ev.main ns hl))
  case F =>
    intro w mg fa h KX G hmg
    refine' Ev.all_mk KX G hmg ?aC0 ?kC0 ?pg0 ?hd0 ?po0 ?sa0 ?mk0 ?na0_read ?na0_words ?a1 ?l1 ?c1 ?k1 ?a2 ?l2 ?c2 ?k2 ?a3 ?l3 ?c3 ?k3 ?a4 ?l4 ?c4 ?k4 ?a5 ?l5 ?c5 ?k5 ?a6 ?l6 ?c6 ?k6 ?a7 ?l7 ?c7 ?k7 ?a8 ?l8 ?c8 ?k8 ?a9 ?l9 ?c9 ?k9 ?a10 ?l10 ?c10 ?k10 ?a11 ?l11 ?c11 ?k11 ?a12 ?l12 ?c12 ?k12 ?a13 ?l13 ?c13 ?k13 ?a14 ?l14 ?c14 ?k14 ?a15 ?l15 ?c15 ?k15 ?a16 ?l16 ?c16 ?k16 ?a17 ?l17 ?c17 ?k17 ?a18 ?l18 ?c18 ?k18 ?a19 ?l19 ?c19 ?k19 ?a20 ?l20 ?c20 ?k20 ?a21 ?l21 ?c21 ?k21 ?a22 ?l22 ?c22 ?k22 ?a23 ?l23 ?c23 ?k23 ?a24 ?l24 ?c24 ?k24 ?a25 ?l25 ?c25 ?k25 ?dy25 ?yd_d25 ?ye_d25 ?a26 ?l26 ?c26 ?k26 ?dy26 ?yd_d26 ?ye_d26 ?a27 ?l27 ?c27 ?k27 ?a28 ?l28 ?c28 ?k28 ?a29 ?l29 ?c29 ?k29 ?a30 ?l30 ?c30 ?k30 ?a31 ?i31 ?l31 ?c31 ?k31 ?a32 ?i32 ?l32 ?c32 ?k32 ?a33 ?i33 ?l33 ?c33 ?k33 ?a34 ?i34 ?l34 ?c34 ?k34 ?z1 ?z2 ?z3 ?z4 ?z5 ?z6 ?z7 ?z8 ?z9 ?z10 ?z11 ?z12 ?z13 ?z14 ?y14 ?yc14 ?yd14 ?ye14 ?z15 ?z16 ?z17 ?z18 ?z19 ?y19 ?yc19 ?yd19 ?ye19 ?z20 ?y20 ?yc20 ?yd20 ?ye20 ?z21 ?y21 ?yx21 ?yd21 ?yt21 ?yc21 ?z22 ?z23 ?z24 ?z25 ?z26
    (case aC0 => k_is); (case kC0 => k_is); (case pg0 => k_is); (case hd0 => k_is); (case po0 => k_is); (case sa0 => k_is); (case mk0 => k_is); (case na0_read => k_is); (case na0_words => k_is); (case a1 => k_is); (case l1 => k_is); (case c1 => k_is); (case k1 => k_is); (case a2 => k_is); (case l2 => k_is); (case c2 => k_is); (case k2 => k_is); (case a3 => k_is); (case l3 => k_is); (case c3 => k_is); (case k3 => k_is); (case a4 => k_is); (case l4 => k_is); (case c4 => k_is); (case k4 => k_is); (case a5 => k_is); (case l5 => k_is); (case c5 => k_is); (case k5 => k_is); (case a6 => k_is); (case l6 => k_is); (case c6 => k_is); (case k6 => k_is); (case a7 => k_is); (case l7 => k_is); (case c7 => k_is); (case k7 => k_is); (case a8 => k_is); (case l8 => k_is); (case c8 => k_is); (case k8 => k_is); (case a9 => k_is); (case l9 => k_is); (case c9 => k_is); (case k9 => k_is); (case a10 => k_is); (case l10 => k_is); (case c10 => k_is); (case k10 => k_is); (case a11 => k_is); (case l11 => k_is); (case c11 => k_is); (case k11 => k_is); (case a12 => k_is); (case l12 => k_is); (case c12 => k_is); (case k12 => k_is); (case a13 => k_is); (case l13 => k_is); (case c13 => k_is); (case k13 => k_is); (case a14 => k_is); (case l14 => k_is); (case c14 => k_is); (case k14 => k_is); (case a15 => k_is); (case l15 => k_is); (case c15 => k_is); (case k15 => k_is); (case a16 => k_is); (case l16 => k_is); (case c16 => k_is); (case k16 => k_is); (case a17 => k_is); (case l17 => k_is); (case c17 => k_is); (case k17 => k_is); (case a18 => k_is); (case l18 => k_is); (case c18 => k_is); (case k18 => k_is); (case a19 => k_is); (case l19 => k_is); (case c19 => k_is); (case k19 => k_is); (case a20 => k_is); (case l20 => k_is); (case c20 => k_is); (case k20 => k_is); (case a21 => k_is); (case l21 => k_is); (case c21 => k_is); (case k21 => k_is); (case a22 => k_is); (case l22 => k_is); (case c22 => k_is); (case k22 => k_is); (case a23 => k_is); (case l23 => k_is); (case c23 => k_is); (case k23 => k_is); (case a24 => k_is); (case l24 => k_is); (case c24 => k_is); (case k24 => k_is); (case a25 => k_is); (case l25 => k_is); (case c25 => k_is); (case k25 => k_is); (case dy25 => k_is); (case yd_d25 => rfl); (case ye_d25 => decide +kernel); (case a26 => k_is); (case l26 => k_is); (case c26 => k_is); (case k26 => k_is); (case dy26 => k_is); (case yd_d26 => rfl); (case ye_d26 => decide +kernel); (case a27 => k_is); (case l27 => k_is); (case c27 => k_is); (case k27 => k_is); (case a28 => k_is); (case l28 => k_is); (case c28 => k_is); (case k28 => k_is); (case a29 => k_is); (case l29 => k_is); (case c29 => k_is); (case k29 => k_is); (case a30 => k_is); (case l30 => k_is); (case c30 => k_is); (case k30 => k_is); (case a31 => k_is); (case i31 => k_is); (case l31 => k_is); (case c31 => k_is); (case k31 => k_is); (case a32 => k_is); (case i32 => k_is); (case l32 => k_is); (case c32 => k_is); (case k32 => k_is); (case a33 => k_is); (case i33 => k_is); (case l33 => k_is); (case c33 => k_is); (case k33 => k_is); (case a34 => k_is); (case i34 => k_is); (case l34 => k_is); (case c34 => k_is); (case k34 => k_is); (case z1 => k_is); (case z2 => k_is); (case z3 => k_is); (case z4 => k_is); (case z5 => k_is); (case z6 => k_is); (case z7 => k_is); (case z8 => k_is); (case z9 => k_is); (case z10 => k_is); (case z11 => k_is); (case z12 => k_is); (case z13 => k_is); (case z14 => k_is); (case y14 => k_is); (case yc14 => rfl); (case yd14 => rfl); (case ye14 => decide +kernel); (case z15 => k_is); (case z16 => k_is); (case z17 => k_is); (case z18 => k_is); (case z19 => k_is); (case y19 => k_is); (case yc19 => rfl); (case yd19 => rfl); (case ye19 => decide +kernel); (case z20 => k_is); (case y20 => k_is); (case yc20 => rfl); (case yd20 => rfl); (case ye20 => decide +kernel); (case z21 => k_is); (case y21 => k_is); (case yx21 => exact ⟨rfl, rfl, rfl⟩); (case yd21 => rfl); (case yt21 => repeat (first | exact trivial | refine ⟨⟨rfl, ⟨_, rfl⟩, _, rfl⟩, ?_⟩)); (case yc21 => rfl); (case z22 => k_is); (case z23 => k_is); (case z24 => k_is); (case z25 => k_is); (case z26 => k_is)
