import PyProof.Rows.All
import Wide.All
import OpenK.AllK
import Wide.FinOn
import HandS.ForMost
import HandS.Wide
import HandS.IsInst
import HandS.ExcInit
import HandS.ExcValue
import HandS.Zip
import HandS.TupAny
import HandS.Style
import KE.DataEq
import HandS.TupMul
import PyProof.NeKinds
import HandS.RaiseMore
import HandS.Defaults
import HandS.StrMore
import KE.GoesMore
import KE.KIntText
import PyProof.Rows.StrCut
import HandS.FStrTup
import PyProof.Rows.ReprR
import KE.KUnpackStar
import PyProof.AutoListH
import PyProof.Rows.SetFrom
import HandS.Strs
import PyProof.Rows.MinMaxGenD
import HandS.SortKw
import HandS.Set
import HandS.Sort
import HandS.SetFor
import PyProof.Rows.SortShellAny
import HandS.FStr
import HandS.Text
import HandS.ReplaceLit
import HandS.ReplaceList
import HandS.SetBool
import HandS.DictComp
import PyProof.ZipIter
import KE.KDictZip
import HandS.Zip0
import HandS.ExcCtx
import HandS.WordsExc
import HandS.Finally
import HandS.SuiteRaise
import KE.KExcRaise
import HandS.ClsMeth
import HandS.ExcField
import HandS.ExcIs
import KE.KExcIs
import KE.KDictPairs
import HandS.MakeKwOnly
import KE.SortData
import KE.DataCmp
import KE.DataFind
import PyProof.FactsAll.dict
import PyProof.EqKinds
import PyProof.DictUpdate
import HandS.TupLen
import HandS.SetKeys
import PyProof.DictMoreH
import PyProof.DictValues
import HandS.Conv
import KE.KDictList
import PySem.Challenge.RW_callmelt_k18_refusals_apart
set_option Elab.async false
set_option linter.all false
set_option maxRecDepth 100000
set_option backward.match.sparseCases false
namespace Ev
open PySem PySem.Spec L2
open PyProof.Rows hiding St

/-- frozen data -/
inductive D where
  | non | bl (b : Bool) | int (i : Int) | str (x : Str) | tup (xs : List D) | lst (xs : List D)
  | dk (kvs : List (Key × D))
  | dt (kvs : List (List Key × D))
  | obj (c : Str) (fs : List (Str × D))
  | fn (x : Str)
  /-- a text's own tuple, to be gone through alone -/
  | ctp (xs : List D)
  /-- an exception, made and not raised -/
  | xo (c : Str) (fs : List (Str × D))
  | ty (n : String)
  | scr (xs : List D)
  /-- any object: nothing is known of it -/
  | any
  /-- a dict of which nothing more is known -/
  | odk
/-- an exception: its class, its fields -/
structure Exn where
  cls : Str
  fs : List (Str × D)
/-- a thing that its place owns, or frozen data; seq, box, ob: a list, a tuple, an object of owned things; exn: the exception that is handled -/
inductive M where
  | d (x : D)
  | lst (xs : List D)
  | dk (kvs : List (Key × D))
  | dt (kvs : List (List Key × D))
  | seq (xs : List M)
  | box (xs : List M)
  | ob (c : Str) (ns : List Str) (ms : List M)
  | exn (x : Exn)
mutual
noncomputable def M.toD : M → D
  | .d x => x
  | .lst xs => .lst xs
  | .dk kvs => .dk kvs
  | .dt kvs => .dt kvs
  | .seq xs => .lst (M.toDs xs)
  | .box xs => .tup (M.toDs xs)
  | .ob c ns ms => .obj c (ns.zip (M.toDs ms))
  | .exn _ => .any
noncomputable def M.toDs : List M → List D
  | [] => []
  | m :: ms => m.toD :: M.toDs ms
end
/-- what may be read of it without a look at its owned parts -/
noncomputable def M.vw : M → Option D
  | .d x => some x
  | .lst xs => some (.lst xs)
  | .dk kvs => some (.dk kvs)
  | .dt kvs => some (.dt kvs)
  | _ => none
noncomputable abbrev SS := List (Option M)
inductive R (α : Type) where
  | ok (a : α) (S : SS)
  | ex (x : Exn) (S : SS)
  | no
/-- a mark that keeps simp from going into what is still to come -/
structure Ph.{u} {α : Sort u} (a : α) : Type where
  mk ::
noncomputable def R.bind {α β : Type} (r : R α) (g : α → SS → R β) (_ : Ph g := ⟨⟩) : R β := match r with
  | .ok a S => g a S
  | .ex x S => .ex x S
  | .no => .no
/-- an operand: a value, or a name's slot -/
inductive Ov where
  | d (x : D)
  | j (i : Nat)
noncomputable def SS.at (S : SS) (i : Nat) : Option M := (S[i]?).join
noncomputable def Ov.get : Ov → SS → Option D
  | .d x, _ => some x
  | .j i, S => (S.at i).bind M.vw
/-- the text's objects, which class has which name, the exception that is handled (its object's place, class, dict) -/
structure KG where
  k : PySem.W.Frag
  cl : Str → Option Addr
  xn : Option (Addr × Value × Option Addr)
instance : CoeOut KG PySem.W.Frag := ⟨KG.k⟩

noncomputable def D.isS : D → Bool
  | .str _ => true
  | _ => false
/-- a tuple of one's own, or one of the text's, which are of texts alone -/
noncomputable def TqT (K : KG) (F : Hp) (a : Addr) (vs : List V) (ds : List D) : Prop := F a = some (.tup vs) ∨ (SqT K F a vs ∧ ds.all D.isS = true ∧ ds ≠ [])
theorem TqT.sq {K : KG} {F : Hp} {a : Addr} {vs : List V} {ds : List D} (h : TqT K F a vs ds) : SqT K F a vs := by
  rcases h with h | h
  · exact .inl (.inl h)
  · exact h.1
/-- there stands an exception of this class, its fields -/
noncomputable def XoT (F : Hp) (a C : Addr) (ns : List Str) (vs : List V) : Prop := (F a = some (ExO (.ref C) a) ∧ ns = []) ∨ ∃ d, F a = some (exo a C (some d)) ∧ F d = some (exd d (ns.zip vs))
/-- there stands a dict -/
noncomputable def isDct (a : Addr) : Heap → Prop := fun h => ∃ o, h.get? a = some o ∧ o.cls = .type "dict"
mutual
inductive RepD (K : KG) (F : Hp) : V → D → Prop
  | non : RepD K F .non .non
  | bl (b : Bool) : RepD K F (.bl b) (.bl b)
  | int (i : Int) : RepD K F (.int i) (.int i)
  | str (x : Str) : RepD K F (.str x) (.str x)
  | tup {a : Addr} {vs : List V} {ds : List D} : TqT K F a vs ds → RepDs K F vs ds → RepD K F (.ref a) (.tup ds)
  | lst {a : Addr} {vs : List V} {ds : List D} : Rd F a (.lst vs) → RepDs K F vs ds → RepD K F (.ref a) (.lst ds)
  | ty (n : String) : RepD K F (.ty n) (.ty n)
  | scr {a : Addr} {vs : List V} {ds : List D} : SqL K F a vs → RepDs K F vs ds → RepD K F (.ref a) (.scr ds)
  | dk {a : Addr} {ks : List Key} {vs : List V} {ds : List D} : Rd F a (.dK (ks.zip vs)) → ks.length = vs.length → RepDs K F vs ds → RepD K F (.ref a) (.dk (ks.zip ds))
  | dt {a : Addr} {ks : List (List Key)} {vs : List V} {ds : List D} : F a = some (.dT (ks.zip vs)) → ks.length = vs.length → RepDs K F vs ds → RepD K F (.ref a) (.dt (ks.zip ds))
  | obj {a C dx : Addr} {c : Str} {ns : List Str} {vs : List V} {ds : List D} : K.cl c = some C → F a = some (.ins C dx (ns.zip vs)) → ns.length = vs.length → RepDs K F vs ds → RepD K F (.ref a) (.obj c (ns.zip ds))
  | any (a : Addr) : RepD K F (.ref a) .any
  | odk {a : Addr} : F a = some (.ext (isDct a)) → RepD K F (.ref a) .odk
  | fn {a : Addr} {x : Str} : K.cl x = some a → RepD K F (.ref a) (.fn x)
  | ctp {a : Addr} {vs : List V} {ds : List D} : SqT K F a vs → RepDs K F vs ds → RepD K F (.ref a) (.ctp ds)
  | xo {a C : Addr} {c : Str} {ns : List Str} {vs : List V} {ds : List D} : K.cl c = some C → XoT F a C ns vs → ns.length = vs.length → RepDs K F vs ds → RepD K F (.ref a) (.xo c (ns.zip ds))
inductive RepDs (K : KG) (F : Hp) : List V → List D → Prop
  | nil : RepDs K F [] []
  | cons {v : V} {vs : List V} {d : D} {ds : List D} : RepD K F v d → RepDs K F vs ds → RepDs K F (v :: vs) (d :: ds)
end

/-- F is kept in F' -/
noncomputable def Le (F F' : Hp) : Prop := ∀ a o, F a = some o → F' a = some o
theorem Le.refl (F : Hp) : Le F F := fun _ _ h => h
theorem Le.trans {F F1 F2 : Hp} (a : Le F F1) (b : Le F1 F2) : Le F F2 := fun x o h => b x o (a x o h)
theorem Le.rd {F F' : Hp} (l : Le F F') {a : Addr} {u : HO} (h : Rd F a u) : Rd F' a u := by
  rcases h with h | ⟨o, h⟩
  · exact .inl (l _ _ h)
  · exact .inr ⟨o, l _ _ h⟩
theorem Le.sl {K : KG} {F F' : Hp} (l : Le F F') {a : Addr} {xs : List V} (h : SqL K F a xs) : SqL K F' a xs := by
  rcases h with h | h
  · exact .inl (l.rd h)
  · exact .inr h
theorem Le.st {K : KG} {F F' : Hp} (l : Le F F') {a : Addr} {xs : List V} (h : SqT K F a xs) : SqT K F' a xs := by
  rcases h with h | h
  · exact .inl (l.rd h)
  · exact .inr h
theorem Le.tq {K : KG} {F F' : Hp} (l : Le F F') {a : Addr} {xs : List V} {ds : List D} (h : TqT K F a xs ds) : TqT K F' a xs ds := by
  rcases h with h | h
  · exact .inl (l _ _ h)
  · exact .inr ⟨l.st h.1, h.2⟩
mutual
theorem RepD.mono {K : KG} {F F' : Hp} (l : Le F F') : ∀ {v : V} {d : D}, RepD K F v d → RepD K F' v d
  | _, _, .non => .non
  | _, _, .bl b => .bl b
  | _, _, .int b => .int b
  | _, _, .str b => .str b
  | _, _, .tup h r => .tup (l.tq h) (RepDs.mono l r)
  | _, _, .lst h r => .lst (l.rd h) (RepDs.mono l r)
  | _, _, .ty n => .ty n
  | _, _, .scr h r => .scr (l.sl h) (RepDs.mono l r)
  | _, _, .dk h e r => .dk (l.rd h) e (RepDs.mono l r)
  | _, _, .dt h e r => .dt (l _ _ h) e (RepDs.mono l r)
  | _, _, .obj c h e r => .obj c (l _ _ h) e (RepDs.mono l r)
  | _, _, .any a => .any a
  | _, _, .odk h => .odk (l _ _ h)
  | _, _, .fn h => .fn h
  | _, _, .ctp h r => .ctp (l.st h) (RepDs.mono l r)
  | _, _, .xo c h e r => .xo c (h.imp (fun h => ⟨l _ _ h.1, h.2⟩) fun ⟨d, h1, h2⟩ => ⟨d, l _ _ h1, l _ _ h2⟩) e (RepDs.mono l r)
theorem RepDs.mono {K : KG} {F F' : Hp} (l : Le F F') : ∀ {v : List V} {d : List D}, RepDs K F v d → RepDs K F' v d
  | _, _, .nil => .nil
  | _, _, .cons h r => .cons (RepD.mono l h) (RepDs.mono l r)
end
mutual
/-- frozen data do not look at the exception that is handled -/
theorem RepD.cx {K K' : KG} {F : Hp} (h1 : K.k = K'.k) (h2 : K.cl = K'.cl) : ∀ {v : V} {d : D}, RepD K F v d → RepD K' F v d
  | _, _, .non => .non
  | _, _, .bl b => .bl b
  | _, _, .int b => .int b
  | _, _, .str b => .str b
  | _, _, .tup h r => .tup (h.elim .inl fun h => .inr ⟨h1 ▸ h.1, h.2⟩) (RepDs.cx h1 h2 r)
  | _, _, .lst h r => .lst h (RepDs.cx h1 h2 r)
  | _, _, .ty n => .ty n
  | _, _, .scr h r => .scr (h1 ▸ h) (RepDs.cx h1 h2 r)
  | _, _, .dk h e r => .dk h e (RepDs.cx h1 h2 r)
  | _, _, .dt h e r => .dt h e (RepDs.cx h1 h2 r)
  | _, _, .obj c h e r => .obj (h2 ▸ c) h e (RepDs.cx h1 h2 r)
  | _, _, .any v => .any v
  | _, _, .odk h => .odk h
  | _, _, .fn h => .fn (h2 ▸ h)
  | _, _, .ctp h r => .ctp (h1 ▸ h) (RepDs.cx h1 h2 r)
  | _, _, .xo c h e r => .xo (h2 ▸ c) h e (RepDs.cx h1 h2 r)
theorem RepDs.cx {K K' : KG} {F : Hp} (h1 : K.k = K'.k) (h2 : K.cl = K'.cl) : ∀ {v : List V} {d : List D}, RepDs K F v d → RepDs K' F v d
  | _, _, .nil => .nil
  | _, _, .cons h r => .cons (RepD.cx h1 h2 h) (RepDs.cx h1 h2 r)
end
theorem RepDs.len {K : KG} {F : Hp} : ∀ {v : List V} {d : List D}, RepDs K F v d → v.length = d.length
  | _, _, .nil => rfl
  | _, _, .cons _ r => congrArg (· + 1) (RepDs.len r)
theorem RepDs.get {K : KG} {F : Hp} : ∀ {v : List V} {d : List D} {i : Nat} {x : D}, RepDs K F v d → d[i]? = some x → ∃ u, v[i]? = some u ∧ RepD K F u x
  | _, _, _, _, .nil, e => by simp at e
  | _, _, 0, _, .cons h r, e => by simp at e; subst e; exact ⟨_, rfl, h⟩
  | _, _, i + 1, x, .cons _ r, e => by
    obtain ⟨u, h1, h2⟩ := RepDs.get (i := i) (x := x) r (by simpa using e)
    exact ⟨u, by simpa using h1, h2⟩
theorem RepDs.getV {K : KG} {F : Hp} : ∀ {v : List V} {d : List D} {i : Nat} {x : V}, RepDs K F v d → v[i]? = some x → ∃ u, d[i]? = some u ∧ RepD K F x u
  | _, _, _, _, .nil, e => by simp at e
  | _, _, 0, _, .cons h r, e => by simp at e; subst e; exact ⟨_, rfl, h⟩
  | _, _, i + 1, x, .cons _ r, e => by
    obtain ⟨u, h1, h2⟩ := RepDs.getV (i := i) (x := x) r (by simpa using e)
    exact ⟨u, by simpa using h1, h2⟩
theorem RepDs.append {K : KG} {F : Hp} : ∀ {v v' : List V} {d d' : List D}, RepDs K F v d → RepDs K F v' d' → RepDs K F (v ++ v') (d ++ d')
  | _, _, _, _, .nil, s => s
  | _, _, _, _, .cons h r, s => .cons h (RepDs.append r s)
theorem RepDs.set {K : KG} {F : Hp} {x : V} {y : D} (h : RepD K F x y) : ∀ {v : List V} {d : List D} (i : Nat), RepDs K F v d → RepDs K F (v.set i x) (d.set i y)
  | _, _, _, .nil => .nil
  | _, _, 0, .cons _ r => .cons h r
  | _, _, i + 1, .cons q r => .cons q (RepDs.set h i r)
theorem RepDs.take {K : KG} {F : Hp} : ∀ {v : List V} {d : List D} (n : Nat), RepDs K F v d → RepDs K F (v.take n) (d.take n)
  | _, _, 0, _ => .nil
  | _, _, _ + 1, .nil => .nil
  | _, _, n + 1, .cons h r => .cons h (RepDs.take n r)
theorem RepDs.drop {K : KG} {F : Hp} : ∀ {v : List V} {d : List D} (n : Nat), RepDs K F v d → RepDs K F (v.drop n) (d.drop n)
  | _, _, 0, r => r
  | _, _, _ + 1, .nil => .nil
  | _, _, n + 1, .cons h r => RepDs.drop n r
theorem RepDs.dropLast {K : KG} {F : Hp} {v : List V} {d : List D} (h : RepDs K F v d) : RepDs K F v.dropLast d.dropLast := by
  rw [List.dropLast_eq_take, List.dropLast_eq_take, h.len]
  exact h.take _
theorem RepDs.snoc {K : KG} {F : Hp} {v : List V} {d : List D} {x : V} {y : D} (h : RepDs K F v d) (r : RepD K F x y) : RepDs K F (v ++ [x]) (d ++ [y]) := h.append (.cons r .nil)
theorem RepDs.reverse {K : KG} {F : Hp} : ∀ {v : List V} {d : List D}, RepDs K F v d → RepDs K F v.reverse d.reverse
  | _, _, .nil => .nil
  | _, _, .cons h r => by
    rw [List.reverse_cons, List.reverse_cons]
    exact (RepDs.reverse r).snoc h

/-- an exception of this class and dict is x -/
noncomputable def RepX (K : KG) (F : Hp) (x : Exn) (cls : Value) (d : Option Addr) : Prop :=
  ∃ C, K.cl x.cls = some C ∧ cls = .ref C ∧ (x.fs = [] ∧ d = none ∨ ∃ (dd : Addr) (ns : List Str) (vs : List V) (ds : List D), d = some dd ∧ F dd = some (.xd (ns.zip vs)) ∧ ns.length = vs.length ∧ RepDs K F vs ds ∧ x.fs = ns.zip ds)
theorem RepX.mono {K : KG} {F F' : Hp} (l : Le F F') {x : Exn} {cls : Value} {d : Option Addr} (h : RepX K F x cls d) : RepX K F' x cls d := by
  obtain ⟨C, h1, h2, h3⟩ := h
  refine ⟨C, h1, h2, ?_⟩
  rcases h3 with h3 | ⟨dd, ns, vs, ds, e1, e2, e3, e4, e5⟩
  · exact .inl h3
  · exact .inr ⟨dd, ns, vs, ds, e1, l _ _ e2, e3, e4.mono l, e5⟩

/-! ### places -/
inductive Rt where
  | s (i : Nat) | r
  deriving DecidableEq
noncomputable abbrev Pl := Rt × List Nat
noncomputable abbrev OW := Addr → Option Pl
structure Bs (H F : Hp) (O : OW) : Prop where
  fh : Le F H
  fo : ∀ a q, O a = some q → F a = none ∧ ∃ o, H a = some o
structure Stp (H F : Hp) (O : OW) (H' F' : Hp) (O' : OW) : Prop where
  ff : Le F F'
  kp : ∀ a o, H a = some o → O a = none → H' a = some o
  nw : ∀ a q, O' a = some q → (∃ q', O a = some q') ∨ H a = none
  fz : ∀ a o, F' a = some o → F a = some o ∨ (∃ q, O a = some q) ∨ H a = none
  al : ∀ a o, H a = some o → ∃ o', H' a = some o'
theorem Stp.refl (H F : Hp) (O : OW) : Stp H F O H F O := ⟨Le.refl _, fun _ _ h _ => h, fun _ _ h => .inl ⟨_, h⟩, fun _ _ h => .inl h, fun _ o h => ⟨o, h⟩⟩
theorem Stp.trans {H F H1 F1 H2 F2 : Hp} {O O1 O2 : OW} (a : Stp H F O H1 F1 O1) (b : Stp H1 F1 O1 H2 F2 O2) : Stp H F O H2 F2 O2 := by
  have back : ∀ x, (∃ q', O1 x = some q') ∨ H1 x = none → (∃ q', O x = some q') ∨ H x = none := fun x h => by
    rcases h with ⟨q', h⟩ | h
    · exact a.nw x q' h
    · cases e : O x with
      | some q => exact .inl ⟨q, rfl⟩
      | none =>
        refine .inr ?_
        cases e2 : H x with
        | none => rfl
        | some o => rw [a.kp x o e2 e] at h; cases h
  refine ⟨a.ff.trans b.ff, fun x o h e => ?_, fun x q h => back x (b.nw x q h), fun x o h => ?_, fun x o h => let ⟨o1, h1⟩ := a.al x o h; b.al x o1 h1⟩
  · refine b.kp x o (a.kp x o h e) ?_
    cases e1 : O1 x with
    | none => rfl
    | some q =>
      rcases a.nw x q e1 with ⟨q', h'⟩ | h'
      · rw [e] at h'; cases h'
      · rw [h] at h'; cases h'
  · rcases b.fz x o h with h | h
    · exact a.fz x o h
    · exact .inr (back x h)

mutual
noncomputable def RepM (K : KG) (H F : Hp) (O : OW) : Pl → V → M → Prop
  | _, v, .d x => RepD K F v x
  | q, v, .lst ds => ∃ (a : Addr) (vs : List V), v = .ref a ∧ O a = some q ∧ H a = some (.lst vs) ∧ RepDs K F vs ds
  | q, v, .dk kd => ∃ (a : Addr) (ks : List Key) (vs : List V) (ds : List D), v = .ref a ∧ O a = some q ∧ H a = some (.dK (ks.zip vs)) ∧ ks.length = vs.length ∧ RepDs K F vs ds ∧ kd = ks.zip ds
  | q, v, .dt kd => ∃ (a : Addr) (ks : List (List Key)) (vs : List V) (ds : List D), v = .ref a ∧ O a = some q ∧ H a = some (.dT (ks.zip vs)) ∧ ks.length = vs.length ∧ RepDs K F vs ds ∧ kd = ks.zip ds
  | q, v, .seq ms => ∃ (a : Addr) (vs : List V), v = .ref a ∧ O a = some q ∧ H a = some (.lst vs) ∧ RepMs K H F O q 0 vs ms
  | q, v, .box ms => ∃ (a : Addr) (vs : List V), v = .ref a ∧ F a = some (.tup vs) ∧ RepMs K H F O q 0 vs ms
  | q, v, .ob c ns ms => ∃ (a C dx : Addr) (vs : List V), v = .ref a ∧ O a = some q ∧ K.cl c = some C ∧ H a = some (.ins C dx (ns.zip vs)) ∧ ns.length = vs.length ∧ RepMs K H F O q 0 vs ms
  | _, v, .exn x => ∃ a cls d, K.xn = some (a, cls, d) ∧ v = .ref a ∧ RepX K F x cls d
noncomputable def RepMs (K : KG) (H F : Hp) (O : OW) : Pl → Nat → List V → List M → Prop
  | _, _, vs, [] => vs = []
  | q, k, vs, m :: ms => ∃ v vs', vs = v :: vs' ∧ RepM K H F O (q.1, q.2 ++ [k]) v m ∧ RepMs K H F O q (k + 1) vs' ms
end
structure Rp (K : KG) (H F : Hp) (O : OW) (σ : St) (S : SS) : Prop where
  bs : Bs H F O
  len : S.length = σ.length
  sl : ∀ i m, S.at i = some m → ∃ v, σ[i]? = some (some v) ∧ RepM K H F O (.s i, []) v m

mutual
/-- the same at another root -/
theorem RepM.move {K : KG} {H F H' F' : Hp} {O O' : OW} {z z' : Rt} (ff : Le F F') (k : ∀ a o p, O a = some (z, p) → H a = some o → H' a = some o ∧ O' a = some (z', p)) : ∀ {m : M} {p : List Nat} {v : V}, RepM K H F O (z, p) v m → RepM K H' F' O' (z', p) v m
  | .d x, p, v, h => RepD.mono ff h
  | .lst ds, p, v, h => by
    obtain ⟨a, vs, e, ho, hh, r⟩ := h
    obtain ⟨k1, k2⟩ := k a _ p ho hh
    exact ⟨a, vs, e, k2, k1, r.mono ff⟩
  | .dk kd, p, v, h => by
    obtain ⟨a, ks, vs, ds, e, ho, hh, el, r, ek⟩ := h
    obtain ⟨k1, k2⟩ := k a _ p ho hh
    exact ⟨a, ks, vs, ds, e, k2, k1, el, r.mono ff, ek⟩
  | .dt kd, p, v, h => by
    obtain ⟨a, ks, vs, ds, e, ho, hh, el, r, ek⟩ := h
    obtain ⟨k1, k2⟩ := k a _ p ho hh
    exact ⟨a, ks, vs, ds, e, k2, k1, el, r.mono ff, ek⟩
  | .seq ms, p, v, h => by
    obtain ⟨a, vs, e, ho, hh, r⟩ := h
    obtain ⟨k1, k2⟩ := k a _ p ho hh
    exact ⟨a, vs, e, k2, k1, RepMs.move ff k r⟩
  | .box ms, p, v, h => by
    obtain ⟨a, vs, e, ht, r⟩ := h
    exact ⟨a, vs, e, ff _ _ ht, RepMs.move ff k r⟩
  | .ob c ns ms, p, v, h => by
    obtain ⟨a, C, dx, vs, e, ho, hc, hh, el, r⟩ := h
    obtain ⟨k1, k2⟩ := k a _ p ho hh
    exact ⟨a, C, dx, vs, e, k2, hc, k1, el, RepMs.move ff k r⟩
  | .exn x, p, v, h => by
    obtain ⟨a, cls, d, e1, e2, r⟩ := h
    exact ⟨a, cls, d, e1, e2, r.mono ff⟩
theorem RepMs.move {K : KG} {H F H' F' : Hp} {O O' : OW} {z z' : Rt} (ff : Le F F') (k : ∀ a o p, O a = some (z, p) → H a = some o → H' a = some o ∧ O' a = some (z', p)) : ∀ {ms : List M} {p : List Nat} {n : Nat} {vs : List V}, RepMs K H F O (z, p) n vs ms → RepMs K H' F' O' (z', p) n vs ms
  | [], p, n, vs, h => h
  | m :: ms, p, n, vs, h => by
    obtain ⟨v, vs', e, h1, h2⟩ := h
    exact ⟨v, vs', e, RepM.move ff k h1, RepMs.move ff k h2⟩
end
/-- what is at a place stays -/
theorem RepM.stay {K : KG} {H F H' F' : Hp} {O O' : OW} {q : Pl} {v : V} {m : M} (h : RepM K H F O q v m) (ff : Le F F') (k : ∀ a o p, O a = some (q.1, p) → H a = some o → H' a = some o ∧ O' a = some (q.1, p)) : RepM K H' F' O' q v m :=
  RepM.move (z := q.1) (z' := q.1) (p := q.2) ff k h
theorem RepMs.len {K : KG} {H F : Hp} {O : OW} {q : Pl} : ∀ {ms : List M} {k : Nat} {vs : List V}, RepMs K H F O q k vs ms → vs.length = ms.length
  | [], k, vs, h => by rw [show vs = [] from h]; rfl
  | m :: ms, k, vs, h => by
    obtain ⟨v, vs', e, _, h2⟩ := h
    rw [e, List.length_cons, List.length_cons, RepMs.len h2]

/-! ### views: what may be read now -/
inductive View (K : KG) (H F : Hp) : V → D → Prop
  | fz {v : V} {d : D} : RepD K F v d → View K H F v d
  | lst {a : Addr} {vs : List V} {ds : List D} : H a = some (.lst vs) → RepDs K F vs ds → View K H F (.ref a) (.lst ds)
  | dk {a : Addr} {ks : List Key} {vs : List V} {ds : List D} : H a = some (.dK (ks.zip vs)) → ks.length = vs.length → RepDs K F vs ds → View K H F (.ref a) (.dk (ks.zip ds))
  | dt {a : Addr} {ks : List (List Key)} {vs : List V} {ds : List D} : H a = some (.dT (ks.zip vs)) → ks.length = vs.length → RepDs K F vs ds → View K H F (.ref a) (.dt (ks.zip ds))
theorem RepM.view {K : KG} {H F : Hp} {O : OW} {q : Pl} {v : V} {m : M} {d : D} (h : RepM K H F O q v m) (hd : m.vw = some d) : View K H F v d := by
  cases m with
  | d x => cases hd; exact .fz h
  | lst ds =>
    cases hd
    obtain ⟨a, vs, e, ho, hh, r⟩ := h
    subst e
    exact .lst hh r
  | dk kd =>
    cases hd
    obtain ⟨a, ks, vs, ds, e, ho, hh, el, r, ek⟩ := h
    subst e ek
    exact .dk hh el r
  | dt kd =>
    cases hd
    obtain ⟨a, ks, vs, ds, e, ho, hh, el, r, ek⟩ := h
    subst e ek
    exact .dt hh el r
  | seq _ => cases hd
  | box _ => cases hd
  | ob _ _ _ => cases hd
  | exn _ => cases hd
section
variable {K : KG} {H F : Hp} {v : V}
theorem View.int {i : Int} (h : View K H F v (.int i)) : v = .int i := by
  cases h with
  | fz h => cases h; rfl
theorem View.bl {i : Bool} (h : View K H F v (.bl i)) : v = .bl i := by
  cases h with
  | fz h => cases h; rfl
theorem View.str {i : Str} (h : View K H F v (.str i)) : v = .str i := by
  cases h with
  | fz h => cases h; rfl
theorem View.non (h : View K H F v .non) : v = .non := by
  cases h with
  | fz h => cases h; rfl
theorem View.scr {ds : List D} (l : Le F H) (h : View K H F v (.scr ds)) : ∃ a vs, v = .ref a ∧ SqL K H a vs ∧ RepDs K F vs ds := by
  cases h with
  | fz h => cases h with | scr h r => exact ⟨_, _, rfl, l.sl h, r⟩
theorem View.ty {i : String} (h : View K H F v (.ty i)) : v = .ty i := by
  cases h with
  | fz h => cases h; rfl
theorem View.list {ds : List D} (l : Le F H) (h : View K H F v (.lst ds)) : ∃ a vs, v = .ref a ∧ Rd H a (.lst vs) ∧ RepDs K F vs ds := by
  cases h with
  | fz h => cases h with | lst h r => exact ⟨_, _, rfl, l.rd h, r⟩
  | lst h r => exact ⟨_, _, rfl, .inl h, r⟩
theorem View.tuple {ds : List D} (l : Le F H) (h : View K H F v (.tup ds)) : ∃ a vs, v = .ref a ∧ SqT K H a vs ∧ RepDs K F vs ds := by
  cases h with
  | fz h => cases h with | tup h r => exact ⟨_, _, rfl, l.st h.sq, r⟩
end
/-- an operand stands for v -/
noncomputable def RepOv (K : KG) (F : Hp) (σ : St) (v : V) : Ov → Prop
  | .d x => RepD K F v x
  | .j i => σ[i]? = some (some v)
theorem RepOv.mono {K : KG} {F F' : Hp} {σ : St} {v : V} {o : Ov} (l : Le F F') (h : RepOv K F σ v o) : RepOv K F' σ v o := by
  cases o with
  | d x => exact RepD.mono l h
  | j i => exact h
theorem Rp.view {K : KG} {H F : Hp} {O : OW} {σ : St} {S : SS} {v : V} {o : Ov} {d : D} (r : Rp K H F O σ S) (h : RepOv K F σ v o) (e : o.get S = some d) : View K H F v d := by
  cases o with
  | d x =>
    cases e
    exact .fz h
  | j i =>
    have e : (S.at i).bind M.vw = some d := e
    cases e2 : S.at i with
    | none => rw [e2] at e; cases e
    | some m =>
      rw [e2] at e
      have e : m.vw = some d := e
      obtain ⟨w, hw, rm⟩ := r.sl i m e2
      have z : σ[i]? = some (some v) := h
      rw [hw] at z
      cases z
      exact rm.view e

/-! ### freezing a root -/
noncomputable def frzF (q : Rt) (H F : Hp) (O : OW) : Hp := fun a => match O a with
  | some (q', _) => if q' = q then H a else F a
  | none => F a
noncomputable def frzO (q : Rt) (O : OW) : OW := fun a => match O a with
  | some (q', p) => if q' = q then none else some (q', p)
  | none => none
section
variable {K : KG} {H F : Hp} {O : OW} {q : Rt}
theorem frz_bs (b : Bs H F O) : Bs H (frzF q H F O) (frzO q O) := by
  refine ⟨fun a o h => ?_, fun a p h => ?_⟩
  · unfold frzF at h
    cases e : O a with
    | none => rw [e] at h; exact b.fh a o h
    | some z =>
      rw [e] at h
      dsimp only at h
      split at h
      · exact h
      · exact b.fh a o h
  · unfold frzO at h
    unfold frzF
    cases e : O a with
    | none => rw [e] at h; cases h
    | some z =>
      rw [e] at h
      dsimp only at h ⊢
      split at h
      · cases h
      · rename_i ne
        rw [if_neg ne]
        exact b.fo a _ e
theorem frz_stp (b : Bs H F O) : Stp H F O H (frzF q H F O) (frzO q O) := by
  refine ⟨fun a o h => ?_, fun a o h _ => h, fun a p h => ?_, fun a o h => ?_, fun _ o h => ⟨o, h⟩⟩
  · unfold frzF
    cases e : O a with
    | none => exact h
    | some z =>
      have := (b.fo a z e).1
      rw [h] at this
      cases this
  · unfold frzO at h
    cases e : O a with
    | none => rw [e] at h; cases h
    | some z => exact .inl ⟨z, rfl⟩
  · unfold frzF at h
    cases e : O a with
    | none => rw [e] at h; exact .inl h
    | some z => exact .inr (.inl ⟨z, rfl⟩)
theorem frz_other {q' : Rt} {p : List Nat} {v : V} {m : M} (b : Bs H F O) (h : RepM K H F O (q', p) v m) (ne : q' ≠ q) : RepM K H (frzF q H F O) (frzO q O) (q', p) v m :=
  h.stay (frz_stp b).ff fun a o p e1 e2 => ⟨e2, by unfold frzO; rw [e1]; dsimp only; rw [if_neg ne]⟩
mutual
/-- frozen, and what is read is now frozen -/
theorem frzm {H F F' : Hp} {O : OW} {q : Rt} (ff : Le F F') (k : ∀ a o p, O a = some (q, p) → H a = some o → F' a = some o) : ∀ {m : M} {p : List Nat} {v : V}, RepM K H F O (q, p) v m → RepD K F' v m.toD
  | .d x, p, v, h => RepD.mono ff h
  | .lst ds, p, v, h => by
    obtain ⟨a, vs, e, ho, hh, r⟩ := h
    subst e
    exact .lst (.inl (k a _ p ho hh)) (r.mono ff)
  | .dk kd, p, v, h => by
    obtain ⟨a, ks, vs, ds, e, ho, hh, el, r, ek⟩ := h
    subst e ek
    exact .dk (.inl (k a _ p ho hh)) el (r.mono ff)
  | .dt kd, p, v, h => by
    obtain ⟨a, ks, vs, ds, e, ho, hh, el, r, ek⟩ := h
    subst e ek
    exact .dt (k a _ p ho hh) el (r.mono ff)
  | .seq ms, p, v, h => by
    obtain ⟨a, vs, e, ho, hh, r⟩ := h
    subst e
    exact .lst (.inl (k a _ p ho hh)) (frzms ff k r)
  | .box ms, p, v, h => by
    obtain ⟨a, vs, e, ht, r⟩ := h
    subst e
    exact .tup (.inl (ff _ _ ht)) (frzms ff k r)
  | .ob c ns ms, p, v, h => by
    obtain ⟨a, C, dx, vs, e, ho, hc, hh, el, r⟩ := h
    subst e
    exact .obj hc (k a _ p ho hh) el (frzms ff k r)
  | .exn x, p, v, h => by
    obtain ⟨a, cls, d, e1, e2, r⟩ := h
    subst e2
    exact .any a
theorem frzms {H F F' : Hp} {O : OW} {q : Rt} (ff : Le F F') (k : ∀ a o p, O a = some (q, p) → H a = some o → F' a = some o) : ∀ {ms : List M} {p : List Nat} {n : Nat} {vs : List V}, RepMs K H F O (q, p) n vs ms → RepDs K F' vs (M.toDs ms)
  | [], p, n, vs, h => by rw [show vs = [] from h]; exact .nil
  | m :: ms, p, n, vs, h => by
    obtain ⟨v, vs', e, h1, h2⟩ := h
    rw [e]
    exact .cons (frzm ff k h1) (frzms ff k h2)
end
theorem frz_rep {p : List Nat} {v : V} {m : M} (b : Bs H F O) (h : RepM K H F O (q, p) v m) : RepD K (frzF q H F O) v m.toD :=
  frzm (frz_stp b).ff (fun a o p e1 e2 => by unfold frzF; rw [e1]; dsimp only; rw [if_pos rfl]; exact e2) h
end
theorem SS.at_set {S : SS} {i j : Nat} {m : Option M} {x : M} (h : SS.at (S.set i m) j = some x) : (i = j ∧ m = some x) ∨ (i ≠ j ∧ S.at j = some x) := by
  unfold SS.at at h ⊢
  by_cases e : i = j
  · subst e
    by_cases hl : i < S.length
    · rw [List.getElem?_set_self hl] at h
      exact .inl ⟨rfl, h⟩
    · rw [List.getElem?_eq_none (by simpa using hl)] at h
      cases h
  · rw [List.getElem?_set_ne e] at h
    exact .inr ⟨e, h⟩
theorem SS.set_ne {S : SS} {i j : Nat} {m : Option M} (h : i ≠ j) : SS.at (S.set i m) j = S.at j := by
  unfold SS.at
  rw [List.getElem?_set_ne h]
/-- freezing a slot -/
noncomputable def SS.frz (S : SS) (i : Nat) : SS := match S.at i with
  | some m => S.set i (some (.d m.toD))
  | none => S
theorem Rp.frzSlot {K : KG} {H F : Hp} {O : OW} {σ : St} {S : SS} {i : Nat} {m : M} (r : Rp K H F O σ S) (e : S.at i = some m) :
    Rp K H (frzF (.s i) H F O) (frzO (.s i) O) σ (S.set i (some (.d m.toD))) := by
  refine ⟨frz_bs r.bs, by rw [List.length_set]; exact r.len, fun j x h => ?_⟩
  rcases SS.at_set h with ⟨e1, e2⟩ | ⟨ne, h⟩
  · subst e1
    cases e2
    obtain ⟨v, hv, rm⟩ := r.sl i m e
    exact ⟨v, hv, frz_rep r.bs rm⟩
  · obtain ⟨v, hv, rm⟩ := r.sl j x h
    exact ⟨v, hv, frz_other r.bs rm fun z => ne (by cases z; rfl)⟩
/-- freezing a result -/
theorem Rp.frzR {K : KG} {H F : Hp} {O : OW} {σ : St} {S : SS} (r : Rp K H F O σ S) : Rp K H (frzF .r H F O) (frzO .r O) σ S :=
  ⟨frz_bs r.bs, r.len, fun j x h => by
    obtain ⟨v, hv, rm⟩ := r.sl j x h
    exact ⟨v, hv, frz_other r.bs rm fun z => by cases z⟩⟩

/-- a context's objects and classes -/
noncomputable def clsOf (mg : Str → Option Value) (c : Str) : Option Addr := match mg c with
  | some (.ref C) => some C
  | _ => none
noncomputable abbrev kg0 (K : PySem.W.Frag) (mg : Str → Option Value) : KG := ⟨K, clsOf mg, none⟩
/-- the exception that is handled in an except suite -/
noncomputable def xnOf (calm : Bool) (pn : List (Addr × Obj)) : Option (Addr × Value × Option Addr) := match calm, pn with
  | false, p :: _ => some (p.1, p.2.cls, p.2.dict)
  | _, _ => none
noncomputable abbrev kg (X : Cx) : KG := ⟨X.K, clsOf X.mg, xnOf X.calm X.pn⟩
theorem xnOf_calm {c : Bool} {pn : List (Addr × Obj)} (h : c = true) : xnOf c pn = none := by subst h; rfl
theorem kg_calm {X : Cx} (h : X.calm = true) : kg X = kg0 X.K X.mg := by unfold kg; rw [xnOf_calm h]
theorem kg_blk {X : Cx} (h : X.calm = true) (s : Shared) (H : Hp) (scope : Scope) (e : Env) (fp : List Addr) : kg (X.blk s H scope e fp) = kg X := by
  rw [kg_calm h, kg_calm (X := X.blk s H scope e fp) h]
theorem PE.imp {X : Cx} {e : Expr} {t t' : TE} (h : PE X e t) (hm : ∀ σ H Q, t' σ H Q → t σ H Q) : PE X e t' := ⟨fun pins s σ H Q I q => h.run pins s σ H Q I (hm σ H Q q)⟩
theorem PT.imp {X : Cx} {e : Expr} {t t' : TT} (h : PT X e t) (hm : ∀ σ H Q, t' σ H Q → t σ H Q) : PT X e t' := ⟨fun pins s σ H Q I q => h.run pins s σ H Q I (hm σ H Q q)⟩
theorem PW.imp {X : Cx} {e : Expr} {t t' : TT} (h : PW X e t) (hm : ∀ σ H Q, t' σ H Q → t σ H Q) : PW X e t' := ⟨fun wh pins s σ H Q I q => h.run wh pins s σ H Q I (hm σ H Q q)⟩
theorem PA.imp {X : Cx} {e : List Expr} {t t' : TA} (h : PA X e t) (hm : ∀ σ H Q, t' σ H Q → t σ H Q) : PA X e t' := ⟨fun pos pins s σ H Q I q => h.run pos pins s σ H Q I (hm σ H Q q)⟩
theorem PS.imp {X : Cx} {e : Stmt} {t t' : TS} (h : PS X e t) (hm : ∀ D σ H, t' D σ H → t D σ H) : PS X e t' := ⟨fun pins s σ H D I q => h.run pins s σ H D I (hm D σ H q)⟩
theorem PSs.imp {X : Cx} {e : List Stmt} {t t' : TS} (h : PSs X e t) (hm : ∀ D σ H, t' D σ H → t D σ H) : PSs X e t' := ⟨fun pins s σ H D I q => h.run pins s σ H D I (hm D σ H q)⟩

inductive RepOvs (K : KG) (F : Hp) (σ : St) : List V → List Ov → Prop
  | nil : RepOvs K F σ [] []
  | cons {v : V} {vs : List V} {o : Ov} {os : List Ov} : RepOv K F σ v o → RepOvs K F σ vs os → RepOvs K F σ (v :: vs) (o :: os)
theorem RepOvs.mono {K : KG} {F F' : Hp} {σ : St} (l : Le F F') : ∀ {v : List V} {d : List Ov}, RepOvs K F σ v d → RepOvs K F' σ v d
  | _, _, .nil => .nil
  | _, _, .cons h r => .cons (h.mono l) (RepOvs.mono l r)

noncomputable abbrev FE := SS → R Ov
noncomputable abbrev FM := SS → R M
noncomputable abbrev FB := SS → R Bool
noncomputable abbrev FA := SS → R (List Ov)
noncomputable def rdE (K : KG) (f : FE) : TE := fun σ H Q => ∃ F O S o S', Rp K H F O σ S ∧ f S = .ok o S' ∧
  ∀ v H' F' O', Stp H F O H' F' O' → Rp K H' F' O' σ S' → RepOv K F' σ v o → Q v H'
noncomputable def rdM (K : KG) (f : FM) : TE := fun σ H Q => ∃ F O S m S', Rp K H F O σ S ∧ f S = .ok m S' ∧
  ∀ v H' F' O', Stp H F O H' F' O' → Rp K H' F' O' σ S' → RepM K H' F' O' (.r, []) v m → Q v H'
noncomputable def rdT (K : KG) (f : FB) : TT := fun σ H Q => ∃ F O S b S', Rp K H F O σ S ∧ f S = .ok b S' ∧
  ∀ H' F' O', Stp H F O H' F' O' → Rp K H' F' O' σ S' → Q b H'
noncomputable def rdA (K : KG) (f : FA) : TA := fun σ H Q => ∃ F O S os S', Rp K H F O σ S ∧ f S = .ok os S' ∧
  ∀ vs H' F' O', Stp H F O H' F' O' → Rp K H' F' O' σ S' → RepOvs K F' σ vs os → Q vs H'
noncomputable abbrev DE (X : Cx) (f : FE) (e : Expr) : Prop := PE X e (rdE (kg X) f)
noncomputable abbrev DM (X : Cx) (f : FM) (e : Expr) : Prop := PE X e (rdM (kg X) f)
noncomputable abbrev DT (X : Cx) (f : FB) (e : Expr) : Prop := PT X e (rdT (kg X) f)
noncomputable abbrev DW (X : Cx) (f : FB) (e : Expr) : Prop := PW X e (rdT (kg X) f)
noncomputable abbrev DA (X : Cx) (f : FA) (es : List Expr) : Prop := PA X es (rdA (kg X) f)

theorem R.bind_ok {α β : Type} {r : R α} {g : α → SS → R β} {b : β} {S : SS} (h : r.bind g = .ok b S) : ∃ a S1, r = .ok a S1 ∧ g a S1 = .ok b S := by
  cases r with
  | ok a S1 => exact ⟨a, S1, rfl, h⟩
  | ex x S1 => cases h
  | no => cases h

/-! ### laying new things -/
section
variable {K : KG} {H F : Hp} {O : OW} {σ : St} {S : SS} {p : Addr} {o : HO}
theorem Bs.free (b : Bs H F O) (h : H p = none) : F p = none ∧ O p = none := by
  refine ⟨?_, ?_⟩
  · cases e : F p with
    | none => rfl
    | some x => rw [b.fh p x e] at h; cases h
  · cases e : O p with
    | none => rfl
    | some x =>
      obtain ⟨_, y, hy⟩ := b.fo p x e
      rw [hy] at h; cases h
theorem Le.upd2 (l : Le F H) : Le (upd F p o) (upd H p o) := fun a u h => by
  by_cases e : a = p
  · subst e; rw [upd_same] at h ⊢; exact h
  · rw [upd_ne e] at h ⊢; exact l a u h
theorem Le.upd1 (h : H p = none) : Le H (upd H p o) := fun a u e => by
  rw [upd_ne (ne_of_none e h)]; exact e
/-- a new frozen object -/
theorem al_upd : ∀ a u, H a = some u → ∃ u', upd H p o a = some u' := fun a u h => by
  by_cases e : a = p
  · subst e; exact ⟨o, upd_same⟩
  · exact ⟨u, by rw [upd_ne e]; exact h⟩
theorem Rp.layF (r : Rp K H F O σ S) (h : H p = none) : Stp H F O (upd H p o) (upd F p o) O ∧ Rp K (upd H p o) (upd F p o) O σ S := by
  obtain ⟨hF, hO⟩ := r.bs.free h
  refine ⟨⟨Le.upd1 hF, fun a u e _ => Le.upd1 h a u e, fun a q e => .inl ⟨q, e⟩, fun a u e => ?_, al_upd⟩, ⟨⟨r.bs.fh.upd2, fun a q e => ?_⟩, r.len, fun i m e => ?_⟩⟩
  · by_cases ea : a = p
    · subst ea; exact .inr (.inr h)
    · rw [upd_ne ea] at e; exact .inl e
  · obtain ⟨h1, u, h2⟩ := r.bs.fo a q e
    have ea : a ≠ p := fun z => by subst z; rw [h] at h2; cases h2
    rw [upd_ne ea, upd_ne ea]
    exact ⟨h1, u, h2⟩
  · obtain ⟨v, hv, rm⟩ := r.sl i m e
    exact ⟨v, hv, rm.stay (Le.upd1 hF) fun a u _ e1 e2 => ⟨Le.upd1 h a u e2, e1⟩⟩
noncomputable def ownR (O : OW) (p : Addr) (q : Pl) : OW := fun a => if a = p then some q else O a
/-- a new object of a place -/
theorem Rp.layO {q : Pl} (r : Rp K H F O σ S) (h : H p = none) : Stp H F O (upd H p o) F (ownR O p q) ∧ Rp K (upd H p o) F (ownR O p q) σ S := by
  obtain ⟨hF, hO⟩ := r.bs.free h
  refine ⟨⟨Le.refl _, fun a u e _ => Le.upd1 h a u e, fun a q e => ?_, fun a u e => .inl e, al_upd⟩, ⟨⟨r.bs.fh.trans (Le.upd1 h), fun a q' e => ?_⟩, r.len, fun i m e => ?_⟩⟩
  · unfold ownR at e
    split at e
    · rename_i z; subst z; exact .inr h
    · exact .inl ⟨q, e⟩
  · unfold ownR at e
    split at e
    · rename_i z; subst z; exact ⟨hF, o, upd_same⟩
    · rename_i ne
      obtain ⟨h1, u, h2⟩ := r.bs.fo a q' e
      exact ⟨h1, u, by rw [upd_ne ne]; exact h2⟩
  · obtain ⟨v, hv, rm⟩ := r.sl i m e
    refine ⟨v, hv, rm.stay (Le.refl _) fun a u _ e1 e2 => ⟨Le.upd1 h a u e2, ?_⟩⟩
    unfold ownR
    rw [if_neg (ne_of_none e2 h)]
    exact e1
end

/-- what is wanted of a result that is laid here, or is there -/
structure Wish (K : KG) (H F : Hp) (m : M) (Q : VK) : Prop where
  d : ∀ x v, m = .d x → RepD K F v x → Q v H
  t : ∀ zs p vs, m = .d (.tup zs) → H p = none → RepDs K F vs zs → Q (.ref p) (upd H p (.tup vs))
  l : ∀ zs p vs, m = .lst zs → H p = none → RepDs K F vs zs → Q (.ref p) (upd H p (.lst vs))
  k : ∀ (ks : List Key) ds p vs, m = .dk (ks.zip ds) → ks.length = vs.length → H p = none → RepDs K F vs ds → Q (.ref p) (upd H p (.dK (ks.zip vs)))
  o : ∀ p, m = .d .odk → H p = none → Q (.ref p) (upd H p (.ext (isDct p)))
section
variable {K : KG} {H F : Hp} {O : OW} {σ : St} {S : SS}
theorem Rp.wish {m : M} {Q : VK} (r : Rp K H F O σ S) (k : ∀ v H' F' O', Stp H F O H' F' O' → Rp K H' F' O' σ S → RepM K H' F' O' (.r, []) v m → Q v H') : Wish K H F m Q := by
  refine ⟨fun x v e h => ?_, fun zs p vs e h rv => ?_, fun zs p vs e h rv => ?_, fun ks ds p vs e el h rv => ?_, fun p e h => ?_⟩
  · subst e
    exact k v H F O (Stp.refl _ _ _) r h
  · subst e
    obtain ⟨h1, h2⟩ := r.layF (o := .tup vs) h
    exact k _ _ _ _ h1 h2 (.tup (.inl upd_same) (rv.mono h1.ff))
  · subst e
    obtain ⟨h1, h2⟩ := r.layO (o := .lst vs) (q := (.r, [])) h
    exact k _ _ _ _ h1 h2 ⟨p, vs, rfl, if_pos rfl, upd_same, rv⟩
  · subst e
    obtain ⟨h1, h2⟩ := r.layO (o := .dK (ks.zip vs)) (q := (.r, [])) h
    exact k _ _ _ _ h1 h2 ⟨p, ks, vs, ds, rfl, if_pos rfl, upd_same, el, rv, rfl⟩
  · subst e
    obtain ⟨h1, h2⟩ := r.layF (o := .ext (isDct p)) h
    exact k _ _ _ _ h1 h2 (.odk upd_same)
end

section
variable {X : Cx} {e a b : Expr} {pos : Pos}
/-! ### names and constants -/
noncomputable def eN (i : Nat) : FE := fun S => match S.at i with
  | some _ => .ok (.j i) S
  | none => .no
noncomputable def eC (d : D) : FE := fun S => .ok (.d d) S
theorem de_n {i : Nat} (h : PE X e (tVar i)) : DE X (eN i) e := PE.imp h fun σ H Q ⟨F, O, S, o, S', r, hf, k⟩ => by
  unfold eN at hf
  cases em : S.at i with
  | none => rw [em] at hf; cases hf
  | some m =>
    rw [em] at hf
    cases hf
    obtain ⟨v, hv, rm⟩ := r.sl i m em
    exact ⟨v, hv, k v H F O (Stp.refl _ _ _) r hv⟩
theorem de_c {v : V} {d : D} (h : PE X e (tC v)) (hd : ∀ F, RepD (kg X) F v d) : DE X (eC d) e := PE.imp h fun σ H Q ⟨F, O, S, o, S', r, hf, k⟩ => by
  cases hf
  exact k v H F O (Stp.refl _ _ _) r (hd F)
theorem de_int {i : Int} {j : Nat} : DE X (eC (.int i)) (.Constant (.int i) j pos) := de_c pe_int fun _ => .int _
theorem de_bl {i : Bool} {j : Nat} : DE X (eC (.bl i)) (.Constant (.bool i) j pos) := de_c pe_bl fun _ => .bl _
theorem de_non {j : Nat} : DE X (eC .non) (.Constant .none j pos) := de_c pe_non fun _ => .non
theorem de_str {x : Str} {j : Nat} : DE X (eC (.str x)) (.Constant (.str x) j pos) := de_c pe_str fun _ => .str _

/-! ### from a value's reading to a result's, and back -/
noncomputable def eM (f : FM) : FE := fun S => (f S).bind fun m S => .ok (.d m.toD) S
theorem de_m {f : FM} (h : DM X f e) : DE X (eM f) e := PE.imp h fun σ H Q ⟨F, O, S, o, S', r, hf, k⟩ => by
  obtain ⟨m, S1, h1, h2⟩ := R.bind_ok hf
  cases h2
  exact ⟨F, O, S, m, S', r, h1, fun v H' F' O' st r' rm => k v H' _ _ (st.trans (frz_stp r'.bs)) r'.frzR (frz_rep r'.bs rm)⟩
noncomputable def force : Ov → SS → Option (D × SS)
  | .d x, S => some (x, S)
  | .j i, S => match S.at i with
    | some m => some (m.toD, S.set i (some (.d m.toD)))
    | none => none
theorem force_ok {K : KG} {H F : Hp} {O : OW} {σ : St} {S S' : SS} {v : V} {o : Ov} {d : D} (r : Rp K H F O σ S) (ro : RepOv K F σ v o) (h : force o S = some (d, S')) :
    ∃ F' O', Stp H F O H F' O' ∧ Rp K H F' O' σ S' ∧ RepD K F' v d := by
  cases o with
  | d x => cases h; exact ⟨F, O, Stp.refl _ _ _, r, ro⟩
  | j i =>
    have h' : (match S.at i with | some m => some (m.toD, S.set i (some (.d m.toD))) | none => none) = some (d, S') := h
    cases em : S.at i with
    | none => rw [em] at h'; cases h'
    | some m =>
      rw [em] at h'
      cases h'
      obtain ⟨w, hw, rm⟩ := r.sl i m em
      have z : σ[i]? = some (some v) := ro
      rw [hw] at z
      cases z
      exact ⟨_, _, frz_stp r.bs, r.frzSlot em, frz_rep r.bs rm⟩
noncomputable def mE (f : FE) : FM := fun S => (f S).bind fun o S => match force o S with
  | some (d, S') => .ok (.d d) S'
  | none => .no
theorem dm_e {f : FE} (h : DE X f e) : DM X (mE f) e := PE.imp h fun σ H Q ⟨F, O, S, o, S', r, hf, k⟩ => by
  obtain ⟨m, S1, h1, h2⟩ := R.bind_ok hf
  refine ⟨F, O, S, m, S1, r, h1, fun v H' F' O' st r' rm => ?_⟩
  cases ef : force m S1 with
  | none => rw [ef] at h2; cases h2
  | some z =>
    obtain ⟨d, S2⟩ := z
    rw [ef] at h2
    cases h2
    obtain ⟨F2, O2, st2, r2, rd⟩ := force_ok r' rm ef
    exact k v H' F2 O2 (st.trans st2) r2 rd

/-! ### operations on two values -/
noncomputable def OpD (X : Cx) (f : Value → Value → Sem Value) (g : D → D → Option M) : Prop :=
  ∃ r : R2, OpR X f r ∧ ∀ (H F : Hp) (v u : V) (x y : D) (m : M) (Q : VK), Le F H → View (kg X) H F v x → View (kg X) H F u y → g x y = some m → Wish (kg X) H F m Q → r v u H Q
noncomputable def onD (g : D → D → Option M) (a b : Ov) (S : SS) : R M := match a.get S, b.get S with
  | some x, some y => (match g x y with
    | some m => .ok m S
    | none => .no)
  | _, _ => .no
theorem onD_ok {g : D → D → Option M} {a b : Ov} {S S' : SS} {m : M} (h : onD g a b S = .ok m S') : S' = S ∧ ∃ x y, a.get S = some x ∧ b.get S = some y ∧ g x y = some m := by
  unfold onD at h
  cases ea : a.get S with
  | none => rw [ea] at h; cases h
  | some x =>
    cases eb : b.get S with
    | none => rw [ea, eb] at h; cases h
    | some y =>
      rw [ea, eb] at h
      dsimp only at h
      cases eg : g x y with
      | none => rw [eg] at h; cases h
      | some m' => rw [eg] at h; cases h; exact ⟨rfl, x, y, rfl, rfl, eg⟩
noncomputable def mBin (g : D → D → Option M) (fa fb : FE) : FM := fun S => (fa S).bind fun a S => (fb S).bind fun b S => onD g a b S
/-- both operands, then the operation's wish -/
theorem bin_rd {K : KG} {g : D → D → Option M} {fa fb : FE} {r : R2} (hr : ∀ (H F : Hp) (v u : V) (x y : D) (m : M) (Q : VK), Le F H → View K H F v x → View K H F u y → g x y = some m → Wish K H F m Q → r v u H Q)
    {σ : St} {H : Hp} {Q : VK} (h : rdM K (mBin g fa fb) σ H Q) : tOp r (rdE K fa) (rdE K fb) σ H Q := by
  obtain ⟨F, O, S, m, S', rp, hf, k⟩ := h
  obtain ⟨a, S1, h1, h2⟩ := R.bind_ok hf
  obtain ⟨b, S2, h3, h4⟩ := R.bind_ok h2
  obtain ⟨e4, x, y, ex, ey, eg⟩ := onD_ok h4
  subst e4
  refine ⟨F, O, S, a, S1, rp, h1, fun v H1 F1 O1 st1 r1 ra => ⟨F1, O1, S1, b, S', r1, h3, fun u H2 F2 O2 st2 r2 rb => ?_⟩⟩
  refine hr H2 F2 v u x y m Q r2.bs.fh (r2.view (ra.mono st2.ff) ex) (r2.view rb ey) eg (r2.wish fun w H3 F3 O3 st3 r3 rm => ?_)
  exact k w H3 F3 O3 ((st1.trans st2).trans st3) r3 rm
theorem dm_bin {op : Operator} {g : D → D → Option M} {fa fb : FE} (ho : OpD X (binaryOp op) g) (ha : DE X fa a) (hb : DE X fb b) : DM X (mBin g fa fb) (.BinOp a op b pos) := by
  obtain ⟨r, hr, hs⟩ := ho
  exact PE.imp (pe_op hr ha hb) fun σ H Q h => bin_rd hs h
theorem dm_cmp {op : CmpOp} {g : D → D → Option M} {fa fb : FE} (ho : OpD X (compareOp op) g) (ha : DE X fa a) (hb : DE X fb b) (hm : behindInMarks op b = false) : DM X (mBin g fa fb) (.Compare a [op] [b] pos) := by
  obtain ⟨r, hr, hs⟩ := ho
  exact PE.imp (pe_cmpR hr ha hb hm) fun σ H Q h => bin_rd hs h
/-- a result that is a truth -/
noncomputable def asB (m : M) (S : SS) : R Bool := match m with
  | .d (.bl b) => .ok b S
  | _ => .no
theorem asB_ok {m : M} {S S' : SS} {b : Bool} (h : asB m S = .ok b S') : m = .d (.bl b) ∧ S' = S := by
  unfold asB at h
  split at h
  · cases h; exact ⟨rfl, rfl⟩
  · cases h
noncomputable def tM (f : FM) : FB := fun S => (f S).bind asB
theorem dt_cmp {op : CmpOp} {g : D → D → Option M} {fa fb : FE} (ho : OpD X (compareOp op) g) (ha : DE X fa a) (hb : DE X fb b) (hm : behindInMarks op b = false) : DT X (tM (mBin g fa fb)) (.Compare a [op] [b] pos) := by
  obtain ⟨r, hr, hs⟩ := ho
  refine PT.imp (pt_cmpR hr ha hb hm) fun σ H Q h => ?_
  obtain ⟨F, O, S, c, S', rp, hf, k⟩ := h
  obtain ⟨m, S1, h1, h2⟩ := R.bind_ok hf
  obtain ⟨em, eS⟩ := asB_ok h2
  subst em eS
  refine bin_rd (g := g) hs ⟨F, O, S, _, S', rp, h1, fun v H' F' O' st r' rm => ⟨c, ?_, k H' F' O' st r'⟩⟩
  cases (show RepD (kg X) F' v (.bl c) from rm)
  rfl
/-- a value that is a truth, as a test -/
theorem dt_val {f : FM} (h : DM X f e) (he : ∀ whole, isTrue e X.env whole = (do let v ← whole; standAt e.pos; holding [v] (truthy v)) := by intro _; rfl) : DT X (tM f) e := by
  refine PT.imp (pt_val h he) fun σ H Q h => ?_
  obtain ⟨F, O, S, c, S', rp, hf, k⟩ := h
  obtain ⟨m, S1, h1, h2⟩ := R.bind_ok hf
  obtain ⟨em, eS⟩ := asB_ok h2
  subst em eS
  refine ⟨F, O, S, _, S', rp, h1, fun v H' F' O' st r' rm => ⟨c, ?_, k H' F' O' st r'⟩⟩
  cases (show RepD (kg X) F' v (.bl c) from rm)
  rfl
/-! ### and, or, not -/
noncomputable def tOr' (f g : FB) : FB := fun S => (f S).bind fun c S => if c = true then .ok true S else g S
noncomputable def tNot' (f : FB) : FB := fun S => (f S).bind fun c S => .ok (!c) S
theorem dt_w {f : FB} (h : DW X f e) : DT X f e := PW.pt h
theorem dw_or1 {f : FB} (h : DT X f a) : DW X f (.BoolOp .Or [a] pos) := pw_or1 h
theorem dw_or {f g : FB} {rest : List Expr} (ha : DT X f a) (hb : DW X g (.BoolOp .Or (b :: rest) pos)) : DW X (tOr' f g) (.BoolOp .Or (a :: b :: rest) pos) := by
  refine PW.imp (pw_or ha hb) fun σ H Q h => ?_
  obtain ⟨F, O, S, c, S', rp, hf, k⟩ := h
  obtain ⟨d, S1, h1, h2⟩ := R.bind_ok hf
  refine ⟨F, O, S, d, S1, rp, h1, fun H' F' O' st r' => ?_⟩
  cases d with
  | false =>
    show (if false = true then _ else _)
    rw [if_neg (by decide)]
    exact ⟨F', O', S1, c, S', r', h2, fun H2 F2 O2 st2 r2 => k H2 F2 O2 (st.trans st2) r2⟩
  | true =>
    cases h2
    exact k H' F' O' st r'
theorem dt_not {f : FB} (h : DT X f a) : DT X (tNot' f) (.UnaryOp .Not a pos) := by
  refine PT.imp (pt_not h) fun σ H Q h => ?_
  obtain ⟨F, O, S, c, S', rp, hf, k⟩ := h
  obtain ⟨d, S1, h1, h2⟩ := R.bind_ok hf
  cases h2
  exact ⟨F, O, S, d, S', rp, h1, k⟩
/-! ### argument lists, displays -/
noncomputable def aNil : FA := fun S => .ok [] S
noncomputable def aCons (f : FE) (g : FA) : FA := fun S => (f S).bind fun o S => (g S).bind fun os S => .ok (o :: os) S
theorem da_nil : DA X aNil [] := PA.imp pa_nil fun σ H Q ⟨F, O, S, os, S', r, hf, k⟩ => by
  cases hf
  exact k [] H F O (Stp.refl _ _ _) r .nil
theorem da_cons {f : FE} {g : FA} {es : List Expr} (ha : DE X f e) (hr : DA X g es) (hs : starEach (e :: es) X.env = (false, eval e X.env) :: starEach es X.env := by rfl) : DA X (aCons f g) (e :: es) := by
  refine PA.imp (pa_cons ha hr hs) fun σ H Q ⟨F, O, S, os, S', r, hf, k⟩ => ?_
  obtain ⟨o, S1, h1, h2⟩ := R.bind_ok hf
  obtain ⟨or, S2, h3, h4⟩ := R.bind_ok h2
  cases h4
  exact ⟨F, O, S, o, S1, r, h1, fun v H1 F1 O1 st1 r1 ro => ⟨F1, O1, S1, or, S', r1, h3, fun vs H2 F2 O2 st2 r2 rs => k (v :: vs) H2 F2 O2 (st1.trans st2) r2 (.cons (ro.mono st2.ff) rs)⟩⟩
noncomputable def forceAll : List Ov → SS → Option (List D × SS)
  | [], S => some ([], S)
  | o :: os, S => match force o S with
    | some (d, S1) => (match forceAll os S1 with
      | some (ds, S2) => some (d :: ds, S2)
      | none => none)
    | none => none
theorem forceAll_ok {K : KG} {H : Hp} {σ : St} : ∀ {vs : List V} {os : List Ov} {F : Hp} {O : OW} {S S' : SS} {ds : List D}, Rp K H F O σ S → RepOvs K F σ vs os → forceAll os S = some (ds, S') →
    ∃ F' O', Stp H F O H F' O' ∧ Rp K H F' O' σ S' ∧ RepDs K F' vs ds
  | [], _, F, O, S, S', ds, r, .nil, h => by cases h; exact ⟨F, O, Stp.refl _ _ _, r, .nil⟩
  | v :: vs, o :: os, F, O, S, S', ds, r, .cons ro rs, h => by
    have h' : (match force o S with | some (d, S1) => (match forceAll os S1 with | some (ds, S2) => some (d :: ds, S2) | none => none) | none => none) = some (ds, S') := h
    cases e1 : force o S with
    | none => rw [e1] at h'; cases h'
    | some z =>
      obtain ⟨d, S1⟩ := z
      rw [e1] at h'
      dsimp only at h'
      cases e2 : forceAll os S1 with
      | none => rw [e2] at h'; cases h'
      | some z2 =>
        obtain ⟨dr, S2⟩ := z2
        rw [e2] at h'
        cases h'
        obtain ⟨F1, O1, st1, r1, rd⟩ := force_ok r ro e1
        obtain ⟨F2, O2, st2, r2, rds⟩ := forceAll_ok r1 (rs.mono st1.ff) e2
        exact ⟨F2, O2, st1.trans st2, r2, .cons (rd.mono st2.ff) rds⟩
noncomputable def line : Nat := 16777216
theorem line_eq : line = sizeLine := sizeLine_eq.symm
noncomputable def dispF (mk : List D → M) (os : List Ov) (S : SS) : R M := match forceAll os S with
  | some (ds, S') => if ds.length ≤ line then .ok (mk ds) S' else .no
  | none => .no
noncomputable def mTup (f : FA) : FM := fun S => (f S).bind (dispF fun ds => .d (.tup ds))
noncomputable def mLst (f : FA) : FM := fun S => (f S).bind (dispF fun ds => .lst ds)
theorem disp_ok {mk : List D → M} {os : List Ov} {S S' : SS} {m : M} (h : dispF mk os S = .ok m S') : ∃ ds, forceAll os S = some (ds, S') ∧ ds.length ≤ sizeLine ∧ m = mk ds := by
  unfold dispF at h
  cases e : forceAll os S with
  | none => rw [e] at h; cases h
  | some z =>
    obtain ⟨ds, S1⟩ := z
    rw [e] at h
    dsimp only at h
    split at h
    · rename_i hl
      cases h
      exact ⟨ds, rfl, by rw [← line_eq]; exact hl, rfl⟩
    · cases h
theorem dm_tup {f : FA} {es : List Expr} {k : Nat} (h : DA X f es) : DM X (mTup f) (.Tuple es k pos) := by
  refine PE.imp (pe_tup h) fun σ H Q ⟨F, O, S, m, S', r, hf, k⟩ => ?_
  obtain ⟨os, S1, h1, h2⟩ := R.bind_ok hf
  obtain ⟨ds, e, hl, em⟩ := disp_ok h2
  refine ⟨F, O, S, os, S1, r, h1, fun vs H1 F1 O1 st1 r1 rs => ?_⟩
  obtain ⟨F2, O2, st2, r2, rd⟩ := forceAll_ok r1 rs e
  exact ⟨by rw [rd.len]; exact hl, fun p hp => (r2.wish fun v H3 F3 O3 st3 r3 rm => k v H3 F3 O3 ((st1.trans st2).trans st3) r3 rm).t ds p vs em hp rd⟩
theorem dm_lst {f : FA} {es : List Expr} (h : DA X f es) : DM X (mLst f) (.List es pos) := by
  refine PE.imp (pe_lst h) fun σ H Q ⟨F, O, S, m, S', r, hf, k⟩ => ?_
  obtain ⟨os, S1, h1, h2⟩ := R.bind_ok hf
  obtain ⟨ds, e, hl, em⟩ := disp_ok h2
  refine ⟨F, O, S, os, S1, r, h1, fun vs H1 F1 O1 st1 r1 rs => ?_⟩
  obtain ⟨F2, O2, st2, r2, rd⟩ := forceAll_ok r1 rs e
  exact ⟨by rw [rd.len]; exact hl, fun p hp => (r2.wish fun v H3 F3 O3 st3 r3 rm => k v H3 F3 O3 ((st1.trans st2).trans st3) r3 rm).l ds p vs em hp rd⟩
end

inductive Fl where
  | nx | rt (m : M) | bk | ct
noncomputable abbrev FS := SS → R Fl
noncomputable def Kp (kp : Nat → Bool) (σ σ' : St) : Prop := σ'.length = σ.length ∧ ∀ i, kp i = true → σ'[i]? = σ[i]?
theorem Kp.refl (kp : Nat → Bool) (σ : St) : Kp kp σ σ := ⟨rfl, fun _ _ => rfl⟩
theorem Kp.trans {kp : Nat → Bool} {σ σ1 σ2 : St} (a : Kp kp σ σ1) (b : Kp kp σ1 σ2) : Kp kp σ σ2 := ⟨b.1.trans a.1, fun i h => (b.2 i h).trans (a.2 i h)⟩
theorem Kp.set {kp : Nat → Bool} {σ : St} {i : Nat} {v : Option V} (h : kp i = false) : Kp kp σ (σ.set i v) := ⟨List.length_set, fun j hj => by
  rw [List.getElem?_set_ne]
  intro e
  subst e
  rw [h] at hj
  cases hj⟩
noncomputable def rdF (K : KG) (kp : Nat → Bool) (D : Ends) (σ : St) (H F : Hp) (O : OW) (S' : SS) : Fl → Prop
  | .nx => ∀ σ' H' F' O', Stp H F O H' F' O' → Rp K H' F' O' σ' S' → Kp kp σ σ' → D.nx σ' H'
  | .rt m => ∀ v σ' H' F' O', Stp H F O H' F' O' → Rp K H' F' O' σ' S' → Kp kp σ σ' → RepM K H' F' O' (.r, []) v m → D.rt v H'
  | .bk => ∀ σ' H' F' O', Stp H F O H' F' O' → Rp K H' F' O' σ' S' → Kp kp σ σ' → D.bk σ' H'
  | .ct => ∀ σ' H' F' O', Stp H F O H' F' O' → Rp K H' F' O' σ' S' → Kp kp σ σ' → D.ct σ' H'
theorem rdF.from {K : KG} {kp : Nat → Bool} {D : Ends} {σ σ1 : St} {H F H1 F1 : Hp} {O O1 : OW} {S' : SS} {fl : Fl} (h : rdF K kp D σ H F O S' fl) (st : Stp H F O H1 F1 O1) (k : Kp kp σ σ1) : rdF K kp D σ1 H1 F1 O1 S' fl := by
  cases fl with
  | nx => exact fun σ' H' F' O' st' r kk => h σ' H' F' O' (st.trans st') r (k.trans kk)
  | rt m => exact fun v σ' H' F' O' st' r kk => h v σ' H' F' O' (st.trans st') r (k.trans kk)
  | bk => exact fun σ' H' F' O' st' r kk => h σ' H' F' O' (st.trans st') r (k.trans kk)
  | ct => exact fun σ' H' F' O' st' r kk => h σ' H' F' O' (st.trans st') r (k.trans kk)
noncomputable def rdS (K : KG) (kp : Nat → Bool) (f : FS) : TS := fun D σ H => ∃ F O S fl S', Rp K H F O σ S ∧ f S = .ok fl S' ∧ rdF K kp D σ H F O S' fl
noncomputable abbrev DS (X : Cx) (kp : Nat → Bool) (f : FS) (st : Stmt) : Prop := PS X st (rdS (kg X) kp f)
noncomputable abbrev DSs (X : Cx) (kp : Nat → Bool) (f : FS) (sts : List Stmt) : Prop := PSs X sts (rdS (kg X) kp f)

section
variable {X : Cx} {kp : Nat → Bool} {e a b : Expr} {pos : Pos} {st : Stmt} {rest : List Stmt} {f g : FS}
/-! ### blocks -/
noncomputable def sNil : FS := fun S => .ok .nx S
noncomputable def sSeq (f g : FS) : FS := fun S => (f S).bind fun fl S => match fl with
  | .nx => g S
  | .rt m => .ok (.rt m) S
  | .bk => .ok .bk S
  | .ct => .ok .ct S
theorem dss_nil : DSs X kp sNil [] := PSs.imp pss_nil fun D σ H ⟨F, O, S, fl, S', r, hf, k⟩ => by
  cases hf
  exact k σ H F O (Stp.refl _ _ _) r (Kp.refl _ _)
theorem seq_rd {K : KG} {D : Ends} {σ : St} {H : Hp} (h : rdS K kp (sSeq f g) D σ H) : tSeq (rdS K kp f) (rdS K kp g) D σ H := by
  obtain ⟨F, O, S, fl, S', r, hf, k⟩ := h
  obtain ⟨f1, S1, h1, h2⟩ := R.bind_ok hf
  refine ⟨F, O, S, f1, S1, r, h1, ?_⟩
  cases f1 with
  | nx => exact fun σ1 H1 F1 O1 st1 r1 kk => ⟨F1, O1, S1, fl, S', r1, h2, k.from st1 kk⟩
  | rt m => cases h2; exact k
  | bk => cases h2; exact k
  | ct => cases h2; exact k
theorem dss_cons (h1 : DS X kp f st) (h2 : DSs X kp g rest) : DSs X kp (sSeq f g) (st :: rest) := PSs.imp (pss_cons h1 h2) fun D σ H h => seq_rd h
theorem dss_one (h1 : DS X kp f st) : DSs X kp f [st] := pss_one h1
noncomputable def sRet (f : FM) : FS := fun S => (f S).bind fun m S => .ok (.rt m) S
theorem ds_ret {f : FM} (h : DM X f e) : DS X kp (sRet f) (.Return (some e) pos) := PS.imp (ps_ret h) fun D σ H ⟨F, O, S, fl, S', r, hf, k⟩ => by
  obtain ⟨m, S1, h1, h2⟩ := R.bind_ok hf
  cases h2
  exact ⟨F, O, S, m, S', r, h1, fun v H1 F1 O1 st1 r1 rm => k v σ H1 F1 O1 st1 r1 (Kp.refl _ _) rm⟩
noncomputable def sIf (t : FB) (f g : FS) : FS := fun S => (t S).bind fun c S => if c = true then f S else g S
theorem ds_if {c : Expr} {t : FB} {sa sb : List Stmt} (hc : DT X t c) (ha : DSs X kp f sa) (hb : DSs X kp g sb) : DS X kp (sIf t f g) (.If c sa sb pos) := PS.imp (ps_if hc ha hb) fun D σ H ⟨F, O, S, fl, S', r, hf, k⟩ => by
  obtain ⟨d, S1, h1, h2⟩ := R.bind_ok hf
  refine ⟨F, O, S, d, S1, r, h1, fun H1 F1 O1 st1 r1 => ?_⟩
  cases d with
  | true =>
    rw [if_pos rfl]
    rw [if_pos rfl] at h2
    exact ⟨F1, O1, S1, fl, S', r1, h2, k.from st1 (Kp.refl _ _)⟩
  | false =>
    show (if false = true then _ else _)
    rw [if_neg (by decide)]
    exact ⟨F1, O1, S1, fl, S', r1, h2, k.from st1 (Kp.refl _ _)⟩

/-! ### a root takes another's things -/
noncomputable def mvO (q q' : Rt) (O : OW) : OW := fun a => match O a with
  | some (z, p) => if z = q then some (q', p) else if z = q' then none else some (z, p)
  | none => none
section
variable {K : KG} {H F : Hp} {O : OW} {q q' : Rt} {σ : St} {S : SS}
theorem mvO_some {a : Addr} {z : Pl} (h : mvO q q' O a = some z) : ∃ z', O a = some z' := by
  unfold mvO at h
  cases e : O a with
  | none => rw [e] at h; cases h
  | some z' => exact ⟨z', rfl⟩
theorem mv_bs (b : Bs H F O) : Bs H F (mvO q q' O) := ⟨b.fh, fun a z h => by
  obtain ⟨z', e⟩ := mvO_some h
  exact b.fo a z' e⟩
theorem mv_stp : Stp H F O H F (mvO q q' O) := ⟨Le.refl _, fun _ _ h _ => h, fun a z h => .inl (mvO_some h), fun a o h => .inl h, fun _ o h => ⟨o, h⟩⟩
theorem mv_rep {p : List Nat} {v : V} {m : M} (h : RepM K H F O (q, p) v m) : RepM K H F (mvO q q' O) (q', p) v m :=
  RepM.move (Le.refl _) (fun a o _ e1 e2 => ⟨e2, by unfold mvO; rw [e1]; dsimp only; rw [if_pos rfl]⟩) h
theorem mv_other {z : Rt} {p : List Nat} {v : V} {m : M} (h : RepM K H F O (z, p) v m) (n1 : z ≠ q) (n2 : z ≠ q') : RepM K H F (mvO q q' O) (z, p) v m :=
  h.stay (Le.refl _) fun a o _ e1 e2 => ⟨e2, by unfold mvO; rw [e1]; dsimp only; rw [if_neg n1, if_neg n2]⟩
/-- the result is put into a slot -/
theorem Rp.put {i : Nat} {v : V} {m : M} (r : Rp K H F O σ S) (rm : RepM K H F O (.r, []) v m) : Rp K H F (mvO .r (.s i) O) (σ.set i (some v)) (S.set i (some m)) := by
  refine ⟨mv_bs r.bs, by rw [List.length_set, List.length_set]; exact r.len, fun j x h => ?_⟩
  rcases SS.at_set h with ⟨e1, e2⟩ | ⟨ne, h⟩
  · subst e1
    cases e2
    have hl : i < σ.length := by
      rw [← r.len]
      unfold SS.at at h
      by_cases z : i < S.length
      · exact z
      · rw [List.getElem?_eq_none (by simpa using z)] at h; cases h
    exact ⟨v, by rw [List.getElem?_set_self hl], mv_rep rm⟩
  · obtain ⟨w, hw, rw'⟩ := r.sl j x h
    exact ⟨w, by rw [List.getElem?_set_ne ne]; exact hw, mv_other rw' (fun z => by cases z) (fun z => ne (by cases z; rfl))⟩
/-- a slot is forgotten -/
theorem Rp.drop {i : Nat} (r : Rp K H F O σ S) : Rp K H F O σ (S.set i none) := by
  refine ⟨r.bs, by rw [List.length_set]; exact r.len, fun j x h => ?_⟩
  rcases SS.at_set h with ⟨e1, e2⟩ | ⟨ne, h⟩
  · cases e2
  · exact r.sl j x h
/-- a slot gives its thing as a result -/
theorem Rp.give {i : Nat} {m : M} (r : Rp K H F O σ S) (e : S.at i = some m) : ∃ v, σ[i]? = some (some v) ∧ Rp K H F (mvO (.s i) .r O) σ (S.set i none) ∧ RepM K H F (mvO (.s i) .r O) (.r, []) v m := by
  obtain ⟨v, hv, rm⟩ := r.sl i m e
  refine ⟨v, hv, ⟨mv_bs r.bs, by rw [List.length_set]; exact r.len, fun j x h => ?_⟩, mv_rep rm⟩
  rcases SS.at_set h with ⟨e1, e2⟩ | ⟨ne, h⟩
  · cases e2
  · obtain ⟨w, hw, rw'⟩ := r.sl j x h
    exact ⟨w, hw, mv_other rw' (fun z => ne (by cases z; rfl)) (fun z => by cases z)⟩
end
/-! ### a name is stored -/
noncomputable def sSet (i : Nat) (f : FM) : FS := fun S => (f S).bind fun m S => .ok .nx (S.set i (some m))
theorem set_rd {K : KG} {i : Nat} {f : FM} {te : TE} (hk : kp i = false) (ht : ∀ σ H Q, rdM K f σ H Q → te σ H Q) {D : Ends} {σ : St} {H : Hp} (h : rdS K kp (sSet i f) D σ H) : tAsg te (gName i) D σ H := by
  obtain ⟨F, O, S, fl, S', r, hf, k⟩ := h
  obtain ⟨m, S1, h1, h2⟩ := R.bind_ok hf
  cases h2
  exact ht _ _ _ ⟨F, O, S, m, S1, r, h1, fun v H1 F1 O1 st1 r1 rm => k _ H1 F1 _ (st1.trans mv_stp) (r1.put rm) (Kp.set hk)⟩
theorem ds_set {i : Nat} {x : Str} {f : FM} {pos' : Pos} (hN : X.N.Nodup) (hi : X.N[i]? = some x) (hx : Loc X.env.scope x) (hk : kp i = false) (h : DM X f e)
    (hs : swapsWith e (some (.Name x pos')) pos.line X.env = pure false := by rfl) (hf : X.fn x = true ∨ X.env.scope.names.lookup x = some .local := by first | exact .inl rfl | exact .inr rfl | assumption) :
    DS X kp (sSet i f) (.Assign [.Name x pos'] e pos) := PS.imp (ps_set hN hi hx h hs hf) fun D σ H h => set_rd hk (fun _ _ _ q => q) h
/-- return of a name: its thing goes along -/
noncomputable def sRetV (i : Nat) : FS := fun S => match S.at i with
  | some m => .ok (.rt m) (S.set i none)
  | none => .no
theorem ds_retV {i : Nat} (h : PE X e (tVar i)) : DS X kp (sRetV i) (.Return (some e) pos) := PS.imp (ps_ret h) fun D σ H ⟨F, O, S, fl, S', r, hf, k⟩ => by
  unfold sRetV at hf
  cases em : S.at i with
  | none => rw [em] at hf; cases hf
  | some m =>
    rw [em] at hf
    cases hf
    obtain ⟨v, hv, r1, rm⟩ := r.give em
    exact ⟨v, hv, k v σ H F _ mv_stp r1 (Kp.refl _ _) rm⟩

/-! ### targets -/
noncomputable abbrev FG := D → SS → Option SS
noncomputable abbrev FGs := List D → SS → Option SS
noncomputable def rdG (K : KG) (kp : Nat → Bool) (g : FG) : TG := fun v σ H Q => ∃ F O S d S', Rp K H F O σ S ∧ RepD K F v d ∧ g d S = some S' ∧
  ∀ σ' F' O', Stp H F O H F' O' → Rp K H F' O' σ' S' → Kp kp σ σ' → Q σ' H
noncomputable def rdGs (K : KG) (kp : Nat → Bool) (g : FGs) : TGs := fun vs σ H Q => ∃ F O S ds S', Rp K H F O σ S ∧ RepDs K F vs ds ∧ g ds S = some S' ∧
  ∀ σ' F' O', Stp H F O H F' O' → Rp K H F' O' σ' S' → Kp kp σ σ' → Q σ' H
theorem PG.imp {X : Cx} {e : Expr} {t t' : TG} (h : PG X e t) (hm : ∀ v σ H Q, t' v σ H Q → t v σ H Q) : PG X e t' := ⟨fun pins s σ H v u Q I r q => h.run pins s σ H v u Q I r (hm v σ H Q q)⟩
theorem PGs.imp {X : Cx} {e : List Expr} {t t' : TGs} (h : PGs X e t) (hm : ∀ v σ H Q, t' v σ H Q → t v σ H Q) : PGs X e t' := ⟨fun pins s σ H v u Q I r q => h.run pins s σ H v u Q I r (hm v σ H Q q)⟩
noncomputable abbrev DG (X : Cx) (kp : Nat → Bool) (g : FG) (e : Expr) : Prop := PG X e (rdG (kg X) kp g)
noncomputable abbrev DGs (X : Cx) (kp : Nat → Bool) (g : FGs) (e : List Expr) : Prop := PGs X e (rdGs (kg X) kp g)
noncomputable def gN (i : Nat) : FG := fun d S => some (S.set i (some (.d d)))
theorem Rp.putD {K : KG} {H F : Hp} {O : OW} {σ : St} {S : SS} {i : Nat} {v : V} {d : D} (r : Rp K H F O σ S) (rd : RepD K F v d) : Rp K H F O (σ.set i (some v)) (S.set i (some (.d d))) := by
  refine ⟨r.bs, by rw [List.length_set, List.length_set]; exact r.len, fun j x h => ?_⟩
  rcases SS.at_set h with ⟨e1, e2⟩ | ⟨ne, h⟩
  · subst e1
    cases e2
    have hl : i < σ.length := by
      rw [← r.len]
      unfold SS.at at h
      by_cases z : i < S.length
      · exact z
      · rw [List.getElem?_eq_none (by simpa using z)] at h; cases h
    exact ⟨v, by rw [List.getElem?_set_self hl], rd⟩
  · obtain ⟨w, hw, rw'⟩ := r.sl j x h
    exact ⟨w, by rw [List.getElem?_set_ne ne]; exact hw, rw'⟩
theorem dg_n {i : Nat} (hk : kp i = false) (h : PG X e (gName i)) : DG X kp (gN i) e := PG.imp h fun v σ H Q ⟨F, O, S, d, S', r, rd, hg, k⟩ => by
  cases hg
  exact k _ F O (Stp.refl _ _ _) (r.putD rd) (Kp.set hk)
noncomputable def gsNil : FGs := fun ds S => match ds with
  | [] => some S
  | _ => none
noncomputable def gsCons (g : FG) (gs : FGs) : FGs := fun ds S => match ds with
  | [] => none
  | d :: ds => match g d S with
    | some S1 => gs ds S1
    | none => none
theorem dgs_nil : DGs X kp gsNil [] := PGs.imp pgs_nil fun vs σ H Q ⟨F, O, S, ds, S', r, rd, hg, k⟩ => by
  cases rd with
  | nil => cases hg; exact ⟨rfl, k σ F O (Stp.refl _ _ _) r (Kp.refl _ _)⟩
  | cons _ _ => cases hg
theorem dgs_cons {es : List Expr} {g : FG} {gs : FGs} (h1 : DG X kp g e) (h2 : DGs X kp gs es) (hs : (assignEach (e :: es) X.env).map (·.2) = assign e X.env :: (assignEach es X.env).map (·.2) := by rfl) : DGs X kp (gsCons g gs) (e :: es) :=
  PGs.imp (pgs_cons h1 h2 hs) fun vs σ H Q ⟨F, O, S, ds, S', r, rd, hg, k⟩ => by
    cases rd with
    | nil => cases hg
    | @cons v vs d ds rd rds =>
      have hg : (match g d S with | some S1 => gs ds S1 | none => none) = some S' := hg
      cases e1 : g d S with
      | none => rw [e1] at hg; cases hg
      | some S1 =>
        rw [e1] at hg
        exact ⟨v, vs, rfl, F, O, S, d, S1, r, rd, e1, fun σ1 F1 O1 st1 r1 k1 => ⟨F1, O1, S1, ds, S', r1, rds.mono st1.ff, hg, fun σ2 F2 O2 st2 r2 k2 => k σ2 F2 O2 (st1.trans st2) r2 (k1.trans k2)⟩⟩
noncomputable def gT (n : Nat) (gs : FGs) : FG := fun d S => match d with
  | .tup ds => if ds.length = n then gs ds S else none
  | _ => none
theorem dg_t {es : List Expr} {k n : Nat} {gs : FGs} (hc : X.calm = true) (h : DGs X kp gs es) (hn : (assignEach es X.env).length = n := by rfl) (hst : (assignEach es X.env).findIdx? (·.1) = none := by rfl) : DG X kp (gT n gs) (.Tuple es k pos) :=
  PG.imp (pg_tup hc h hn hst) fun v σ H Q ⟨F, O, S, d, S', r, rd, hg, k⟩ => by
    cases d with
    | tup ds =>
      have hg : (if ds.length = n then gs ds S else none) = some S' := hg
      cases rd with
      | @tup a vs _ ht rds =>
        by_cases hl : ds.length = n
        · rw [if_pos hl] at hg
          exact ⟨a, vs, rfl, r.bs.fh.st ht.sq, by rw [rds.len]; exact hl, F, O, S, ds, S', r, rds, hg, k⟩
        · rw [if_neg hl] at hg; cases hg
    | _ => cases hg
/-- target = value -/
noncomputable def sAsg (f : FE) (g : FG) : FS := fun S => (f S).bind fun o S => match force o S with
  | some (d, S1) => (match g d S1 with
    | some S2 => .ok .nx S2
    | none => .no)
  | none => .no
theorem ds_asg {tg : Expr} {f : FE} {g : FG} (he : DE X f e) (hg : DG X kp g tg) (hs : swapsWithSole [tg] e pos.line X.env = pure false := by rfl) (hw : swappedStores [tg] e X.env = pure none := by rfl)
    (h1 : (assignEach [tg] X.env).map (·.2) = [assign tg X.env] := by rfl) : DS X kp (sAsg f g) (.Assign [tg] e pos) := PS.imp (ps_asg he hg hs hw h1) fun D σ H ⟨F, O, S, fl, S', r, hf, k⟩ => by
  obtain ⟨o, S1, h1, h2⟩ := R.bind_ok hf
  refine ⟨F, O, S, o, S1, r, h1, fun v H1 F1 O1 st1 r1 ro => ?_⟩
  cases ef : force o S1 with
  | none => rw [ef] at h2; cases h2
  | some z =>
    obtain ⟨d, S2⟩ := z
    rw [ef] at h2
    dsimp only at h2
    cases eg : g d S2 with
    | none => rw [eg] at h2; cases h2
    | some S3 =>
      rw [eg] at h2
      cases h2
      obtain ⟨F2, O2, st2, r2, rd⟩ := force_ok r1 ro ef
      exact ⟨F2, O2, S2, d, S', r2, rd, eg, fun σ3 F3 O3 st3 r3 kk => k σ3 H1 F3 O3 ((st1.trans st2).trans st3) r3 kk⟩
end

noncomputable abbrev FI := SS → R (List D)
structure Walks (K : KG) (J : It) (ds : List D) (F : Hp) : Prop where
  go : ∀ i H F', Le F F' → Le F' H → i < ds.length → J.go i H
  yld : ∀ i H F' O σ S x H', Rp K H F' O σ S → Le F F' → i < ds.length → J.yld i H x H' → ∃ F'', Stp H F' O H' F'' O ∧ Rp K H' F'' O σ S ∧ ∀ d, ds[i]? = some d → RepD K F'' x d
  stop : ∀ H F', Le F F' → Le F' H → J.stop ds.length H
theorem PI.imp {X : Cx} {tg iter : Expr} {w w' : TI} (h : PI X tg iter w) (hm : ∀ σ H R, w' σ H R → w σ H R) : PI X tg iter w' := ⟨fun pins s σ H R I q => h.run pins s σ H R I (hm σ H R q)⟩
theorem PI.or {X : Cx} {tg iter : Expr} {w w' : TI} (h : PI X tg iter w) (h' : PI X tg iter w') : PI X tg iter (fun σ H R => w σ H R ∨ w' σ H R) := ⟨fun pins s σ H R I q => by
  rcases q with q | q
  · exact h.run pins s σ H R I q
  · exact h'.run pins s σ H R I q⟩
noncomputable def rdI (K : KG) (f : FI) : TI := fun σ H R' => ∃ F O S ds S', Rp K H F O σ S ∧ f S = .ok ds S' ∧
  ∀ J H' F' O', Stp H F O H' F' O' → Rp K H' F' O' σ S' → Walks K J ds F' → R' J H'
noncomputable abbrev DI (X : Cx) (f : FI) (iter : Expr) : Prop := ∀ tg, PI X tg iter (rdI (kg X) f)

section
variable {K : KG} {F : Hp}
theorem walks_list {a : Addr} {vs : List V} {ds : List D} (h : Rd F a (.lst vs)) (r : RepDs K F vs ds) : Walks K (Itl K a) ds F := by
  refine ⟨fun i H F' l1 l2 hi => ?_, fun i H F' O σ S x H' rp l1 hi y => ?_, fun H F' l1 l2 => ?_⟩
  · have hi' : i < vs.length := by rw [r.len]; exact hi
    exact ⟨vs, vs[i], .inl ((l1.trans l2).rd h), List.getElem?_eq_getElem hi'⟩
  · obtain ⟨e, y⟩ := y
    subst e
    refine ⟨F', Stp.refl _ _ _, rp, fun d hd => ?_⟩
    have y2 := y vs (.inl ((l1.trans rp.bs.fh).rd h))
    obtain ⟨d', hd', rd⟩ := r.getV y2
    rw [hd] at hd'
    cases hd'
    exact rd.mono l1
  · exact ⟨vs, .inl ((l1.trans l2).rd h), Nat.le_of_eq r.len⟩
theorem walks_tup {a : Addr} {vs : List V} {ds : List D} (h : SqT K F a vs) (r : RepDs K F vs ds) : Walks K (Itt K a) ds F := by
  refine ⟨fun i H F' l1 l2 hi => ?_, fun i H F' O σ S x H' rp l1 hi y => ?_, fun H F' l1 l2 => ?_⟩
  · have hi' : i < vs.length := by rw [r.len]; exact hi
    exact ⟨vs, vs[i], (l1.trans l2).st h, List.getElem?_eq_getElem hi'⟩
  · obtain ⟨e, y⟩ := y
    subst e
    refine ⟨F', Stp.refl _ _ _, rp, fun d hd => ?_⟩
    have y2 := y vs ((l1.trans rp.bs.fh).st h)
    obtain ⟨d', hd', rd⟩ := r.getV y2
    rw [hd] at hd'
    cases hd'
    exact rd.mono l1
  · exact ⟨vs, (l1.trans l2).st h, Nat.le_of_eq r.len⟩
/-- lo, lo + 1, .. -/
noncomputable def rangeD (lo : Int) (n : Nat) : List D := (List.range n).map fun (k : Nat) => .int (lo + (k : Int))
theorem walks_range {lo : Int} {n : Nat} : Walks K (Itr lo n) (rangeD lo n) F := by
  have hl : (rangeD lo n).length = n := by unfold rangeD; rw [List.length_map, List.length_range]
  refine ⟨fun i H F' l1 l2 hi => ?_, fun i H F' O σ S x H' rp l1 hi y => ?_, fun H F' l1 l2 => ?_⟩
  · rw [hl] at hi; exact hi
  · obtain ⟨e, y⟩ := y
    subst e y
    refine ⟨F', Stp.refl _ _ _, rp, fun d hd => ?_⟩
    unfold rangeD at hd
    rw [List.getElem?_map, List.getElem?_range (by rw [hl] at hi; exact hi)] at hd
    cases hd
    exact .int _
  · show n ≤ (rangeD lo n).length
    rw [hl]; exact Nat.le_refl _
theorem di_any {X : Cx} {f : FI} {tg iter : Expr} (h : DI X f iter) : PI X tg iter (rdI (kg X) f) := h tg
/-- the signs of a text -/
noncomputable def strSeq (x : Str) : List D := x.cps.toList.map fun c => .str ⟨#[c]⟩
theorem walks_str {x : Str} : Walks K (Its x) (strSeq x) F := by
  have hl : (strSeq x).length = x.cps.size := by unfold strSeq; simp
  refine ⟨fun i H F' l1 l2 hi => ?_, fun i H F' O σ S v H' rp l1 hi y => ?_, fun H F' l1 l2 => ?_⟩
  · rw [hl] at hi; exact hi
  · obtain ⟨e, c, hc, ev⟩ := y
    subst e ev
    refine ⟨F', Stp.refl _ _ _, rp, fun d hd => ?_⟩
    unfold strSeq at hd
    rw [List.getElem?_map, Array.getElem?_toList, hc] at hd
    cases hd
    exact .str _
  · show x.cps.size ≤ (strSeq x).length
    rw [hl]; exact Nat.le_refl _
end
section
variable {X : Cx} {kp : Nat → Bool} {e a b : Expr} {pos : Pos} {st : Stmt} {rest : List Stmt} {f g : FS}
/-- a list, a tuple or a text, walked -/
noncomputable def iSeq (f : FE) : FI := fun S => (f S).bind fun o S => match force o S with
  | some (.lst ds, S1) => .ok ds S1
  | some (.tup ds, S1) => .ok ds S1
  | some (.str x, S1) => .ok (strSeq x) S1
  | _ => .no
theorem di_seq {f : FE} (h : DE X f e) : DI X (iSeq f) e := fun tg => by
  refine PI.imp (PI.or (pi_list h) (PI.or (pi_tup h) (pi_str h))) fun σ H R' ⟨F, O, S, ds, S', r, hf, k⟩ => ?_
  obtain ⟨o, S1, h1, h2⟩ := R.bind_ok hf
  cases ef : force o S1 with
  | none => rw [ef] at h2; cases h2
  | some z =>
    obtain ⟨d, S2⟩ := z
    rw [ef] at h2
    cases d with
    | lst xs =>
      cases h2
      refine .inl ⟨F, O, S, o, S1, r, h1, fun v H1 F1 O1 st1 r1 ro => ?_⟩
      obtain ⟨F2, O2, st2, r2, rd⟩ := force_ok r1 ro ef
      cases rd with
      | @lst a vs _ hs rds => exact ⟨a, rfl, ⟨vs, .inl (r2.bs.fh.rd hs)⟩, k _ H1 F2 O2 (st1.trans st2) r2 (walks_list hs rds)⟩
    | tup xs =>
      cases h2
      refine .inr (.inl ⟨F, O, S, o, S1, r, h1, fun v H1 F1 O1 st1 r1 ro => ?_⟩)
      obtain ⟨F2, O2, st2, r2, rd⟩ := force_ok r1 ro ef
      cases rd with
      | @tup a vs _ hs rds => exact ⟨a, rfl, ⟨vs, r2.bs.fh.st hs.sq⟩, k _ H1 F2 O2 (st1.trans st2) r2 (walks_tup hs.sq rds)⟩
    | str x =>
      cases h2
      refine .inr (.inr ⟨F, O, S, o, S1, r, h1, fun v H1 F1 O1 st1 r1 ro => ?_⟩)
      obtain ⟨F2, O2, st2, r2, rd⟩ := force_ok r1 ro ef
      cases rd with
      | str _ => exact ⟨x, rfl, k _ H1 F2 O2 (st1.trans st2) r2 walks_str⟩
    | _ => cases h2
noncomputable def iRng1 (f : FE) : FI := fun S => (f S).bind fun o S => match o.get S with
  | some (.int j) => if -4611686018427387904 ≤ j ∧ j < 4611686018427387904 then .ok (rangeD 0 j.toNat) S else .no
  | _ => .no
theorem di_rng1 {f : FE} {p : Pos} (hg : Gl X "range") (hm : X.mg "range" = none) (h : DE X f a) (hs : starEach [a] X.env = [(false, eval a X.env)] := by rfl) (hs2 : starEach [a] X.env = (false, eval a X.env) :: starEach [] X.env := by rfl) : DI X (iRng1 f) (.Call (.Name "range" p) [a] [] pos) := fun tg => by
  refine PI.imp (pi_range1 hg hm (pa_cons h pa_nil hs2) hs) fun σ H R' ⟨F, O, S, ds, S', r, hf, k⟩ => ?_
  obtain ⟨o, S1, h1, h2⟩ := R.bind_ok hf
  refine ⟨F, O, S, o, S1, r, h1, fun v H1 F1 O1 st1 r1 ro => ?_⟩
  cases eg : o.get S1 with
  | none => rw [eg] at h2; cases h2
  | some d =>
    rw [eg] at h2
    cases d with
    | int j =>
      dsimp only at h2
      split at h2
      · rename_i hb
        cases h2
        obtain rfl := (r1.view ro eg).int
        exact ⟨j, rfl, hb.1, hb.2, k _ H1 F1 O1 st1 r1 walks_range⟩
      · cases h2
    | _ => cases h2
noncomputable def iRng2 (f g : FE) : FI := fun S => (f S).bind fun o S => (g S).bind fun p S => match o.get S, p.get S with
  | some (.int i), some (.int j) => if (-4611686018427387904 ≤ i ∧ i < 4611686018427387904) ∧ -4611686018427387904 ≤ j ∧ j < 4611686018427387904 then .ok (rangeD i (j - i).toNat) S else .no
  | _, _ => .no
theorem di_rng2 {f g : FE} {p : Pos} (hg : Gl X "range") (hm : X.mg "range" = none) (ha : DE X f a) (hb : DE X g b) (hs : starEach [a, b] X.env = [(false, eval a X.env), (false, eval b X.env)] := by rfl) (hs2 : starEach [b] X.env = [(false, eval b X.env)] := by rfl)
    (hs3 : starEach [a, b] X.env = (false, eval a X.env) :: starEach [b] X.env := by rfl) (hs4 : starEach [b] X.env = (false, eval b X.env) :: starEach [] X.env := by rfl) : DI X (iRng2 f g) (.Call (.Name "range" p) [a, b] [] pos) := fun tg => by
  refine PI.imp (pi_range2 hg hm (pa_cons ha (pa_cons hb pa_nil hs4) hs3) hs hs2) fun σ H R' ⟨F, O, S, ds, S', r, hf, k⟩ => ?_
  obtain ⟨o, S1, h1, h2⟩ := R.bind_ok hf
  obtain ⟨p', S2, h3, h4⟩ := R.bind_ok h2
  refine ⟨F, O, S, o, S1, r, h1, fun v H1 F1 O1 st1 r1 ro => ⟨F1, O1, S1, p', S2, r1, h3, fun w H2 F2 O2 st2 r2 rp => ?_⟩⟩
  cases eg : o.get S2 with
  | none => rw [eg] at h4; cases h4
  | some d =>
    cases eg2 : p'.get S2 with
    | none => rw [eg, eg2] at h4; cases d <;> cases h4
    | some d2 =>
      rw [eg, eg2] at h4
      cases d with
      | int i =>
        cases d2 with
        | int j =>
          dsimp only at h4
          split at h4
          · rename_i hb
            cases h4
            obtain rfl := (r2.view (ro.mono st2.ff) eg).int
            obtain rfl := (r2.view rp eg2).int
            exact ⟨i, j, rfl, ⟨hb.1.1, hb.1.2, hb.2.1, hb.2.2⟩, k _ H2 F2 O2 (st1.trans st2) r2 walks_range⟩
          · cases h4
        | _ => cases h4
      | _ => cases h4

/-! ### for -/
noncomputable def forL (g : FG) (body : FS) : List D → SS → R Fl
  | [], S => .ok .nx S
  | d :: ds, S => match g d S with
    | none => .no
    | some S1 => (body S1).bind fun fl S2 => match fl with
      | .nx => forL g body ds S2
      | .ct => forL g body ds S2
      | .bk => .ok .nx S2
      | .rt m => .ok (.rt m) S2
noncomputable def sFor (i : FI) (g : FG) (body : FS) : FS := fun S => (i S).bind fun ds S => forL g body ds S
theorem ds_for {iter tg : Expr} {sts : List Stmt} {i : FI} {g : FG} (hp : PassesOwn (model X.prog X.w) X.A X.env X.xe) (hc : X.calm = true) (hi : PI X tg iter (rdI (kg X) i)) (hg : DG X kp g tg) (hb : DSs X kp f sts)
    (hs : ∀ x, foldedSetIterable iter X.env x = pure x := by intro _; rfl) : DS X kp (sFor i g f) (.For tg iter sts [] pos) := PS.imp (ps_for hp hc hi hg hb hs) fun D σ H ⟨F, O, S, fl, S', r, hf, k⟩ => by
  obtain ⟨ds, S1, h1, h2⟩ := R.bind_ok hf
  refine ⟨F, O, S, ds, S1, r, h1, fun J H1 F1 O1 st1 r1 wk => ?_⟩
  refine ⟨fun n m σ' H' => m = ds.length - n ∧ n ≤ ds.length ∧ ∃ F' O' S2, Stp H F O H' F' O' ∧ Rp (kg X) H' F' O' σ' S2 ∧ Le F1 F' ∧ Kp kp σ σ' ∧ forL g f (ds.drop n) S2 = .ok fl S', ⟨ds.length, rfl, Nat.zero_le _, F1, O1, S1, st1, r1, Le.refl _, Kp.refl _ _, h2⟩, ?_⟩
  rintro n m σ' H' ⟨rfl, hn, F', O', S2, st2, r2, l2, k2, hw⟩
  by_cases hlt : n < ds.length
  · refine .inr ⟨wk.go n H' F' l2 r2.bs.fh hlt, ?_⟩
    rw [List.drop_eq_getElem_cons hlt] at hw
    have hw : (match g ds[n] S2 with | none => .no | some S1 => (f S1).bind fun fl S2 => match fl with | .nx => forL g f (ds.drop (n + 1)) S2 | .ct => forL g f (ds.drop (n + 1)) S2 | .bk => .ok .nx S2 | .rt m => .ok (.rt m) S2) = R.ok fl S' := hw
    cases eg : g ds[n] S2 with
    | none => rw [eg] at hw; cases hw
    | some S3 =>
      rw [eg] at hw
      dsimp only at hw
      obtain ⟨fl4, S4, h3, h4⟩ := R.bind_ok hw
      refine ⟨fun σ5 H5 => ∃ F5 O5 S5, Stp H F O H5 F5 O5 ∧ Rp (kg X) H5 F5 O5 σ5 S5 ∧ Le F1 F5 ∧ Kp kp σ σ5 ∧ forL g f (ds.drop (n + 1)) S5 = .ok fl S', fun σ5 H5 q => ⟨ds.length - (n + 1), by omega, rfl, hlt, q⟩, fun x H5 y => ?_⟩
      obtain ⟨F5, st5, r5, rx⟩ := wk.yld n H' F' O' σ' S2 x H5 r2 l2 hlt y
      refine ⟨F5, O', S2, ds[n], S3, r5, rx _ (List.getElem?_eq_getElem hlt), eg, fun σ6 F6 O6 st6 r6 k6 => ⟨F6, O6, S3, fl4, S4, r6, h3, ?_⟩⟩
      have stA := st2.trans (st5.trans st6)
      have lA : Le F1 F6 := l2.trans (st5.ff.trans st6.ff)
      cases fl4 with
      | nx => exact fun σ7 H7 F7 O7 st7 r7 k7 => ⟨F7, O7, S4, stA.trans st7, r7, lA.trans st7.ff, (k2.trans k6).trans k7, h4⟩
      | ct => exact fun σ7 H7 F7 O7 st7 r7 k7 => ⟨F7, O7, S4, stA.trans st7, r7, lA.trans st7.ff, (k2.trans k6).trans k7, h4⟩
      | bk =>
        cases h4
        exact fun σ7 H7 F7 O7 st7 r7 k7 => k σ7 H7 F7 O7 (stA.trans st7) r7 ((k2.trans k6).trans k7)
      | rt m =>
        cases h4
        exact fun v σ7 H7 F7 O7 st7 r7 k7 rm => k v σ7 H7 F7 O7 (stA.trans st7) r7 ((k2.trans k6).trans k7) rm
  · have e : n = ds.length := by omega
    subst e
    rw [List.drop_length] at hw
    cases hw
    exact .inl ⟨wk.stop H' F' l2 r2.bs.fh, k σ' H' F' O' st2 r2 k2⟩

/-! ### while -/
open Classical in
end

/-! ### comprehensions -/
noncomputable def wipeS (S : SS) : List Nat → SS
  | [] => S
  | v :: vs => (wipeS S vs).set v none
noncomputable def keepD : Option M → Option M
  | some (.d x) => some (.d x)
  | _ => none
noncomputable def restS (S1 S2 : SS) : List Nat → SS
  | [] => S2
  | v :: vs => (restS S1 S2 vs).set v (keepD (S1.at v))
theorem wipeS_len (S : SS) : ∀ vs, (wipeS S vs).length = S.length
  | [] => rfl
  | v :: vs => by show ((wipeS S vs).set v none).length = _; rw [List.length_set, wipeS_len S vs]
theorem restS_len (S1 S2 : SS) : ∀ vs, (restS S1 S2 vs).length = S2.length
  | [] => rfl
  | v :: vs => by show ((restS S1 S2 vs).set v _).length = _; rw [List.length_set, restS_len S1 S2 vs]
theorem wipeS_at {S : SS} {j : Nat} {m : M} : ∀ {vs : List Nat}, (wipeS S vs).at j = some m → j ∉ vs ∧ S.at j = some m
  | [], h => ⟨by simp, h⟩
  | v :: vs, h => by
    rcases SS.at_set h with ⟨_, e⟩ | ⟨ne, h⟩
    · cases e
    · obtain ⟨h1, h2⟩ := wipeS_at h
      exact ⟨by simp only [List.mem_cons, not_or]; exact ⟨fun e => ne e.symm, h1⟩, h2⟩
theorem wipeS_out {S : SS} {j : Nat} : ∀ {vs : List Nat}, j ∉ vs → (wipeS S vs).at j = S.at j
  | [], _ => rfl
  | v :: vs, h => by
    simp only [List.mem_cons, not_or] at h
    show SS.at ((wipeS S vs).set v none) j = _
    rw [SS.set_ne (fun e => h.1 e.symm), wipeS_out h.2]
theorem restS_at {S1 S2 : SS} {j : Nat} {m : M} : ∀ {vs : List Nat}, (restS S1 S2 vs).at j = some m → (∃ x, m = .d x ∧ S1.at j = some (.d x)) ∨ (j ∉ vs ∧ S2.at j = some m)
  | [], h => .inr ⟨by simp, h⟩
  | v :: vs, h => by
    rcases SS.at_set h with ⟨ev, e⟩ | ⟨ne, h⟩
    · subst ev
      cases e1 : S1.at v with
      | none => rw [e1] at e; cases e
      | some n =>
        rw [e1] at e
        cases n with
        | d x => cases e; exact .inl ⟨x, rfl, rfl⟩
        | lst _ => cases e
        | _ => cases e
    · rcases restS_at h with h | ⟨h1, h2⟩
      · exact .inl h
      · exact .inr ⟨by simp only [List.mem_cons, not_or]; exact ⟨fun e => ne e.symm, h1⟩, h2⟩
theorem wipe_get {σ : St} {j : Nat} {v : V} : ∀ {vs : List Nat}, j ∉ vs → σ[j]? = some (some v) → (wipe σ vs)[j]? = some (some v)
  | [], _, h => h
  | u :: vs, hj, h => by
    simp only [List.mem_cons, not_or] at hj
    show ((wipe σ vs).set u none)[j]? = _
    rw [List.getElem?_set_ne (fun e => hj.1 e.symm)]
    exact wipe_get hj.2 h
section
variable {K : KG} {H F H' F' : Hp} {O O' : OW} {σ : St} {S S1 S2 : SS} {vs : List Nat}
theorem Rp.wipe (r : Rp K H F O σ S) : Rp K H F O (L2.wipe σ vs) (wipeS S vs) := by
  refine ⟨r.bs, by rw [wipeS_len, wipe_length]; exact r.len, fun j m h => ?_⟩
  obtain ⟨hj, h⟩ := wipeS_at h
  obtain ⟨v, hv, rm⟩ := r.sl j m h
  exact ⟨v, wipe_get hj hv, rm⟩
theorem Rp.rest (r1 : Rp K H F O σ S1) (l : Le F F') (r : Rp K H' F' O' (L2.wipe σ vs) (wipeS S2 vs)) : Rp K H' F' O' σ (restS S1 S2 vs) := by
  refine ⟨r.bs, ?_, fun j m h => ?_⟩
  · have e := r.len
    rw [wipeS_len, wipe_length] at e
    rw [restS_len]; exact e
  · rcases restS_at h with ⟨x, em, h1⟩ | ⟨hj, h2⟩
    · subst em
      obtain ⟨v, hv, rm⟩ := r1.sl j _ h1
      exact ⟨v, hv, RepD.mono l rm⟩
    · obtain ⟨v, hv, rm⟩ := r.sl j m (by rw [wipeS_out hj]; exact h2)
      exact ⟨v, (wipe_some hv).1, rm⟩
/-- an object that is nobody's -/
theorem Stp.limbo {p : Addr} {o : HO} (st : Stp H F O H' F' O') (h : H p = some o) (hF : F p = none) (hO : O p = none) : H' p = some o ∧ F' p = none ∧ O' p = none := by
  refine ⟨st.kp p o h hO, ?_, ?_⟩
  · cases e : F' p with
    | none => rfl
    | some u =>
      rcases st.fz p u e with z | ⟨q, z⟩ | z
      · rw [hF] at z; cases z
      · rw [hO] at z; cases z
      · rw [h] at z; cases z
  · cases e : O' p with
    | none => rfl
    | some u =>
      rcases st.nw p u e with ⟨q, z⟩ | z
      · rw [hO] at z; cases z
      · rw [h] at z; cases z
theorem Rp.limbo {p : Addr} {o : HO} (r : Rp K H F O σ S) (hF : F p = none) (hO : O p = none) : Rp K (upd H p o) F O σ S := by
  have lf : Le F (upd H p o) := fun a u e => by
    rw [upd_ne (ne_of_none e hF)]
    exact r.bs.fh a u e
  have lo : ∀ {a : Addr} {q : Pl}, O a = some q → a ≠ p := fun {a q} e z => by rw [z, hO] at e; cases e
  refine ⟨⟨lf, fun a q e => ?_⟩, r.len, fun i m e => ?_⟩
  · obtain ⟨h1, u, h2⟩ := r.bs.fo a q e
    exact ⟨h1, u, by rw [upd_ne (lo e)]; exact h2⟩
  · obtain ⟨v, hv, rm⟩ := r.sl i m e
    exact ⟨v, hv, rm.stay (Le.refl _) fun a u _ e1 e2 => ⟨by rw [upd_ne (lo e1)]; exact e2, e1⟩⟩
/-- a step, an object that was not there at its start changed -/
theorem Stp.upd {p : Addr} {o : HO} (st : Stp H F O H' F' O') (h : H p = none) : Stp H F O (L2.upd H' p o) F' O' :=
  ⟨st.ff, fun a u e e2 => by rw [upd_ne (ne_of_none e h)]; exact st.kp a u e e2, st.nw, st.fz, fun a u e => let ⟨u', e'⟩ := st.al a u e; ⟨u', by rw [upd_ne (ne_of_none e h)]; exact e'⟩⟩
theorem Rp.claim {p : Addr} {vs' : List V} {ds : List D} (r : Rp K H F O σ S) (hF : F p = none) (hO : O p = none) (hH : H p = some (.lst vs')) (rd : RepDs K F vs' ds) : Rp K H F (ownR O p (.r, [])) σ S ∧ RepM K H F (ownR O p (.r, [])) (.r, []) (.ref p) (.lst ds) := by
  have lo : ∀ {a : Addr} {q : Pl}, O a = some q → a ≠ p := fun {a q} e z => by rw [z, hO] at e; cases e
  refine ⟨⟨⟨r.bs.fh, fun a q e => ?_⟩, r.len, fun i m e => ?_⟩, p, vs', rfl, if_pos rfl, hH, rd⟩
  · unfold ownR at e
    split at e
    · rename_i z; subst z; exact ⟨hF, _, hH⟩
    · exact r.bs.fo a q e
  · obtain ⟨v, hv, rm⟩ := r.sl i m e
    exact ⟨v, hv, rm.stay (Le.refl _) fun a u _ e1 e2 => ⟨e2, by unfold ownR; rw [if_neg (lo e1)]; exact e1⟩⟩
end
noncomputable def lcL (own : List Nat) (g : FG) (t : FB) (fe : FE) : List D → SS → List D → R (List D)
  | [], S, acc => .ok acc S
  | d :: ds, S, acc => match g d (wipeS S own) with
    | none => .no
    | some S1 => (t S1).bind fun b S2 => if b = true then (fe S2).bind fun o S3 => (match force o S3 with
        | some (x, S4) => if acc.length < line then lcL own g t fe ds S4 (acc ++ [x]) else .no
        | none => .no) else lcL own g t fe ds S2 acc
noncomputable def mLc (own : List Nat) (fi : FI) (g : FG) (t : FB) (fe : FE) : FM := fun S => (fi S).bind fun ds S1 => (lcL own g t fe ds S1 []).bind fun acc S2 => .ok (.lst acc) (restS S1 S2 own)
noncomputable def kpo (own : List Nat) (i : Nat) : Bool := !own.contains i
theorem wipe_same {σ σ2 : St} {own : List Nat} (h : Kp (kpo own) (wipe σ own) σ2) : wipe σ2 own = wipe σ own := by
  have out : ∀ {σ : St} {j : Nat} {vs : List Nat}, j ∉ vs → (wipe σ vs)[j]? = σ[j]? := fun {σ j vs} hj => by
    induction vs with
    | nil => rfl
    | cons u vs ih =>
      simp only [List.mem_cons, not_or] at hj
      show ((wipe σ vs).set u none)[j]? = _
      rw [List.getElem?_set_ne (fun e => hj.1 e.symm), ih hj.2]
  have inn : ∀ {σ : St} {j : Nat} {vs : List Nat}, j ∈ vs → (wipe σ vs)[j]? = if j < σ.length then some none else none := fun {σ j vs} hj => by
    induction vs with
    | nil => cases hj
    | cons u vs ih =>
      show ((wipe σ vs).set u none)[j]? = _
      by_cases e : u = j
      · subst e
        by_cases hl : u < σ.length
        · rw [List.getElem?_set_self (by rw [wipe_length]; exact hl), if_pos hl]
        · rw [if_neg hl, List.getElem?_eq_none (by rw [List.length_set, wipe_length]; omega)]
      · rw [List.getElem?_set_ne e]
        exact ih (by rcases List.mem_cons.mp hj with z | z; exact absurd z.symm e; exact z)
  apply List.ext_getElem?
  intro j
  by_cases hj : j ∈ own
  · rw [inn hj, inn hj, h.1, wipe_length]
  · rw [out hj, out hj]
    have := h.2 j (by unfold kpo; simpa using hj)
    rw [this, out hj]
theorem lc_rd {K : KG} {own : List Nat} {fi : FI} {g : FG} {t : FB} {fe : FE} {σ : St} {H : Hp} {Q : VK} (h : rdM K (mLc own fi g t fe) σ H Q) :
    tLc (rdI K fi) (rdG K (kpo own) g) (rdT K t) (rdE K fe) own σ H Q := by
  obtain ⟨F, O, S, m, S', r, hf, k⟩ := h
  obtain ⟨ds, S1, h1, h2⟩ := R.bind_ok hf
  obtain ⟨accf, Sf, h3, h4⟩ := R.bind_ok h2
  cases h4
  refine ⟨F, O, S, ds, S1, r, h1, fun J H1 F1 O1 st1 r1 wk L hL => ?_⟩
  have hHL : H L = none := by
    cases e : H L with
    | none => rfl
    | some o =>
      obtain ⟨u, hu⟩ := st1.al L o e
      rw [hL] at hu; cases hu
  obtain ⟨hF1, hO1⟩ := r1.bs.free hL
  have r1w : Rp K (upd H1 L (.lst [])) F1 O1 (wipe σ own) (wipeS S1 own) := (Rp.limbo r1 hF1 hO1).wipe
  refine ⟨fun n m H' => m = ds.length - n ∧ n ≤ ds.length ∧ ∃ F' O' S2 acc vs, Stp H F O H' F' O' ∧ Rp K H' F' O' (wipe σ own) (wipeS S2 own) ∧ Le F1 F' ∧ F' L = none ∧ O' L = none ∧ H' L = some (.lst vs) ∧ RepDs K F' vs acc ∧
    lcL own g t fe (ds.drop n) S2 acc = .ok accf Sf, ⟨ds.length, rfl, Nat.zero_le _, F1, O1, S1, [], [], st1.upd hHL, r1w, Le.refl _, hF1, hO1, upd_same, .nil, h3⟩, ?_⟩
  rintro n m H' ⟨rfl, hn, F', O', S2, acc, vs, st2, r2, l2, hF, hO, hH, rv, hw⟩
  by_cases hlt : n < ds.length
  · refine .inr ⟨wk.go n H' F' l2 r2.bs.fh hlt, ?_⟩
    rw [List.drop_eq_getElem_cons hlt] at hw
    have hw : (match g ds[n] (wipeS S2 own) with
      | none => .no
      | some S1 => (t S1).bind fun b S2 => if b = true then (fe S2).bind fun o S3 => (match force o S3 with
        | some (x, S4) => if acc.length < line then lcL own g t fe (ds.drop (n + 1)) S4 (acc ++ [x]) else .no
        | none => .no) else lcL own g t fe (ds.drop (n + 1)) S2 acc) = R.ok accf Sf := hw
    cases eg : g ds[n] (wipeS S2 own) with
    | none => rw [eg] at hw; cases hw
    | some S3 =>
      rw [eg] at hw
      dsimp only at hw
      obtain ⟨b, S4, h5, h6⟩ := R.bind_ok hw
      refine ⟨fun H5 => ∃ F5 O5 S5 acc vs, Stp H F O H5 F5 O5 ∧ Rp K H5 F5 O5 (wipe σ own) (wipeS S5 own) ∧ Le F1 F5 ∧ F5 L = none ∧ O5 L = none ∧ H5 L = some (.lst vs) ∧ RepDs K F5 vs acc ∧
        lcL own g t fe (ds.drop (n + 1)) S5 acc = .ok accf Sf, fun H5 q => ⟨ds.length - (n + 1), by omega, rfl, hlt, q⟩, fun x H5 y => ?_⟩
      obtain ⟨F5, st5, r5, rx⟩ := wk.yld n H' F' O' _ _ x H5 r2 l2 hlt y
      refine ⟨F5, O', _, ds[n], S3, r5, rx _ (List.getElem?_eq_getElem hlt), eg, fun σ6 F6 O6 st6 r6 k6 => ⟨wipe_same k6, F6, O6, S3, b, S4, r6, h5, fun H7 F7 O7 st7 r7 => ?_⟩⟩
      have stB := st5.trans (st6.trans st7)
      have stA := st2.trans stB
      have lA : Le F1 F7 := l2.trans stB.ff
      obtain ⟨hH7, hF7, hO7⟩ := stB.limbo hH hF hO
      cases b with
      | false =>
        rw [if_neg (by decide)] at h6
        show (if false = true then _ else _)
        rw [if_neg (by decide)]
        have rw7 := r7.wipe (vs := own)
        rw [wipe_same k6] at rw7
        exact ⟨F7, O7, S4, acc, vs, stA, rw7, lA, hF7, hO7, hH7, rv.mono stB.ff, h6⟩
      | true =>
        rw [if_pos rfl] at h6
        show (if true = true then _ else _)
        rw [if_pos rfl]
        obtain ⟨o, S5, h7, h8⟩ := R.bind_ok h6
        refine ⟨F7, O7, S4, o, S5, r7, h7, fun y8 H8 F8 O8 st8 r8 ro => ?_⟩
        cases ef : force o S5 with
        | none => rw [ef] at h8; cases h8
        | some z =>
          obtain ⟨d, S6⟩ := z
          rw [ef] at h8
          dsimp only at h8
          split at h8
          · rename_i hlen
            obtain ⟨F9, O9, st9, r9, rd⟩ := force_ok r8 ro ef
            have st89 := st8.trans st9
            obtain ⟨hH9, hF9, hO9⟩ := st89.limbo hH7 hF7 hO7
            have rvA : RepDs K F9 vs acc := rv.mono (stB.ff.trans st89.ff)
            refine ⟨vs, hH9, by rw [rv.len, ← line_eq]; exact hlen, ?_⟩
            have r10 := (Rp.limbo (o := .lst (vs ++ [y8])) r9 hF9 hO9).wipe (vs := own)
            rw [wipe_same k6] at r10
            exact ⟨F9, O9, S6, acc ++ [d], vs ++ [y8], (stA.trans st89).upd hHL, r10, lA.trans st89.ff, hF9, hO9, upd_same, rvA.snoc rd, h8⟩
          · cases h8
  · have e : n = ds.length := by omega
    subst e
    rw [List.drop_length] at hw
    cases hw
    refine .inl ⟨wk.stop H' F' l2 r2.bs.fh, ?_⟩
    obtain ⟨rc, rm⟩ := (r1.rest l2 r2).claim hF hO hH rv
    refine k (.ref L) H' F' _ ⟨st2.ff, st2.kp, fun a q e => ?_, st2.fz, st2.al⟩ rc rm
    unfold ownR at e
    split at e
    · rename_i z; subst z; exact .inr hHL
    · exact st2.nw a q e
noncomputable abbrev DTs (X : Cx) (t : FB) (ifs : List Expr) : Prop := PTs X ifs (rdT (kg X) t)
noncomputable def tTrue : FB := fun S => .ok true S
section
variable {X : Cx} {kp : Nat → Bool} {e a b : Expr} {pos : Pos}
theorem dts_nil : DTs X tTrue [] := ⟨fun pins s σ H Q I ⟨F, O, S, b, S', r, h, k⟩ => by
  cases h
  exact pts_nil.run pins s σ H Q I (k H F O (Stp.refl _ _ _) r)⟩
theorem kbG {s : Shared} {H : Hp} {scope : Scope} {ce : Env} {fp : List Addr} {g : FG} (hc : X.calm = true) (h : DG (X.blk s H scope ce fp) kp g e) : PG (X.blk s H scope ce fp) e (rdG (kg X) kp g) := kg_blk hc s H scope ce fp ▸ h
theorem kbT {s : Shared} {H : Hp} {scope : Scope} {ce : Env} {fp : List Addr} {t : FB} {ifs : List Expr} (hc : X.calm = true) (h : DTs (X.blk s H scope ce fp) t ifs) : PTs (X.blk s H scope ce fp) ifs (rdT (kg X) t) := kg_blk hc s H scope ce fp ▸ h
theorem kbE {s : Shared} {H : Hp} {scope : Scope} {ce : Env} {fp : List Addr} {f : FE} (hc : X.calm = true) (h : DE (X.blk s H scope ce fp) f e) : PE (X.blk s H scope ce fp) e (rdE (kg X) f) := kg_blk hc s H scope ce fp ▸ h
theorem dm_lc {elt tg iter : Expr} {ifs : List Expr} {scope : Scope} {own : List (Str × Nat)} {fi : FI} {g : FG} {t : FB} {fe : FE} (hc : X.calm = true) (hN : X.N.Nodup) (hi : PI X tg iter (rdI (kg X) fi)) (ok : BlkOk X.N X.env.scope scope own)
    (hg : ∀ (s : Shared) (H : Hp) (C : Addr) (cl : List (Str × Addr)) (fp : List Addr), DG (X.blk s H scope (compEnvC scope cl C X.env) fp) (kpo (own.map (·.2))) g tg)
    (ht : ∀ (s : Shared) (H : Hp) (C : Addr) (cl : List (Str × Addr)) (fp : List Addr), DTs (X.blk s H scope (compEnvC scope cl C X.env) fp) t ifs)
    (he : ∀ (s : Shared) (H : Hp) (C : Addr) (cl : List (Str × Addr)) (fp : List Addr), DE (X.blk s H scope (compEnvC scope cl C X.env) fp) fe elt) (hs : ∀ x, foldedSetIterable iter X.env x = pure x := by intro _; rfl) :
    DM X (mLc (own.map (·.2)) fi g t fe) (.ListComp elt [⟨tg, iter, ifs, 0⟩] scope pos) := PE.imp (pe_lc hc hN hi ok (fun s H C cl fp => kbG hc (hg s H C cl fp)) (fun s H C cl fp => kbT hc (ht s H C cl fp)) (fun s H C cl fp => kbE hc (he s H C cl fp)) hs) fun σ H Q h => lc_rd h
/-- name = [..] -/
theorem ds_setLc {i : Nat} {y : Str} {py spos : Pos} {elt tg iter : Expr} {ifs : List Expr} {scope : Scope} {own : List (Str × Nat)} {fi : FI} {g : FG} {t : FB} {fe : FE} (hc : X.calm = true) (hN : X.N.Nodup) (hy : X.N[i]? = some y) (hyl : X.env.scope.names.lookup y = some .local) (hk : kp i = false)
    (hsw : swapsWith (.ListComp elt [⟨tg, iter, ifs, 0⟩] scope pos) (some (.Name y py)) spos.line X.env = pure true) (hi : PI X tg iter (rdI (kg X) fi)) (ok : BlkOk X.N X.env.scope scope own)
    (hg : ∀ (s : Shared) (H : Hp) (C : Addr) (cl : List (Str × Addr)) (fp : List Addr), DG (X.blk s H scope (compEnvC scope cl C X.env) fp) (kpo (own.map (·.2))) g tg)
    (ht : ∀ (s : Shared) (H : Hp) (C : Addr) (cl : List (Str × Addr)) (fp : List Addr), DTs (X.blk s H scope (compEnvC scope cl C X.env) fp) t ifs)
    (he : ∀ (s : Shared) (H : Hp) (C : Addr) (cl : List (Str × Addr)) (fp : List Addr), DE (X.blk s H scope (compEnvC scope cl C X.env) fp) fe elt) (hs : ∀ x, foldedSetIterable iter X.env x = pure x := by intro _; rfl) :
    DS X kp (sSet i (mLc (own.map (·.2)) fi g t fe)) (.Assign [.Name y py] (.ListComp elt [⟨tg, iter, ifs, 0⟩] scope pos) spos) :=
  PS.imp (ps_setLc hc hN hy hyl hsw hi ok (fun s H C cl fp => kbG hc (hg s H C cl fp)) (fun s H C cl fp => kbT hc (ht s H C cl fp)) (fun s H C cl fp => kbE hc (he s H C cl fp)) hs) fun D σ H h => set_rd hk (fun _ _ _ q => lc_rd q) h
end

inductive CR where
  | ok (r : M) (fin : List (Option M))
  | ex (x : Exn) (fin : List (Option M))
  | no
noncomputable def M.own : M → Bool
  | .d _ => false
  | .exn _ => false
  | _ => true
noncomputable def lend : List Ov → SS → Option (List M × SS)
  | [], S => some ([], S)
  | .d x :: os, S => match lend os S with
    | some (ms, S') => some (.d x :: ms, S')
    | none => none
  | .j i :: os, S => match S.at i with
    | some m => (match lend os (if m.own then S.set i none else S) with
      | some (ms, S') => some (m :: ms, S')
      | none => none)
    | none => none
noncomputable def back : List Ov → List M → List (Option M) → SS → SS
  | .j i :: os, m :: ms, f :: fs, S => back os ms fs (if m.own then S.set i f else S)
  | .d _ :: os, _ :: ms, _ :: fs, S => back os ms fs S
  | _, _, _, S => S
noncomputable def Lent (os : List Ov) (ms : List M) (p i : Nat) : Prop := os[p]? = some (.j i) ∧ ∃ m, ms[p]? = some m ∧ m.own = true
theorem Lent.succ {o : Ov} {os : List Ov} {m : M} {ms : List M} {p i : Nat} : Lent (o :: os) (m :: ms) (p + 1) i ↔ Lent os ms p i := by
  unfold Lent
  simp
structure LendOk (os : List Ov) (ms : List M) (S S' : SS) : Prop where
  len : ms.length = os.length
  sl : S'.length = S.length
  dd : ∀ (p : Nat) (x : D), os[p]? = some (Ov.d x) → ms[p]? = some (M.d x)
  jj : ∀ (p i : Nat), os[p]? = some (Ov.j i) → ∃ m, ms[p]? = some m ∧ S.at i = some m
  inj : ∀ p p' i, Lent os ms p i → Lent os ms p' i → p = p'
  st : ∀ j m, S'.at j = some m → S.at j = some m ∧ ∀ p, ¬ Lent os ms p j
theorem lend_ok : ∀ {os : List Ov} {S S' : SS} {ms : List M}, lend os S = some (ms, S') → LendOk os ms S S'
  | [], S, S', ms, h => by
    cases h
    exact ⟨rfl, rfl, fun p x e => by simp at e, fun p i e => by simp at e, fun p p' i e => by simp [Lent] at e, fun j m e => ⟨e, fun p q => by simp [Lent] at q⟩⟩
  | .d x :: os, S, S', ms, h => by
    have h : (match lend os S with | some (ms, S') => some (M.d x :: ms, S') | none => none) = some (ms, S') := h
    cases e1 : lend os S with
    | none => rw [e1] at h; cases h
    | some z =>
      obtain ⟨mr, S1⟩ := z
      rw [e1] at h
      cases h
      have L := lend_ok e1
      have n0 : ∀ i, ¬ Lent (.d x :: os) (.d x :: mr) 0 i := fun i q => by
        have := q.1
        simp at this
      refine ⟨by simp [L.len], L.sl, fun p y e => ?_, fun p i e => ?_, fun p p' i e e' => ?_, fun j m e => ?_⟩
      · cases p with
        | zero => simp at e ⊢; exact e
        | succ p => simpa using L.dd p y (by simpa using e)
      · cases p with
        | zero => simp at e
        | succ p => simpa using L.jj p i (by simpa using e)
      · cases p with
        | zero => exact absurd e (n0 i)
        | succ p =>
          cases p' with
          | zero => exact absurd e' (n0 i)
          | succ p' => exact congrArg (· + 1) (L.inj p p' i (Lent.succ.mp e) (Lent.succ.mp e'))
      · obtain ⟨h1, h2⟩ := L.st j m e
        refine ⟨h1, fun p q => ?_⟩
        cases p with
        | zero => exact n0 j q
        | succ p => exact h2 p (Lent.succ.mp q)
  | .j i :: os, S, S', ms, h => by
    have h : (match S.at i with | some m => (match lend os (if m.own then S.set i none else S) with | some (ms, S') => some (m :: ms, S') | none => none) | none => none) = some (ms, S') := h
    cases em : S.at i with
    | none => rw [em] at h; cases h
    | some m0 =>
      rw [em] at h
      dsimp only at h
      cases e1 : lend os (if m0.own then S.set i none else S) with
      | none => rw [e1] at h; cases h
      | some z =>
        obtain ⟨mr, S1⟩ := z
        rw [e1] at h
        cases h
        have L := lend_ok e1
        have atS : ∀ j m, SS.at (if m0.own then S.set i none else S) j = some m → S.at j = some m ∧ (m0.own = true → i ≠ j) := fun j m e => by
          cases ho : m0.own with
          | false => rw [ho] at e; exact ⟨e, fun z => by cases z⟩
          | true =>
            rw [ho] at e
            rcases SS.at_set e with ⟨_, z⟩ | ⟨ne, z⟩
            · cases z
            · exact ⟨z, fun _ => ne⟩
        have n0 : ∀ k, Lent (.j i :: os) (m0 :: mr) 0 k → k = i ∧ m0.own = true := fun k q => by
          obtain ⟨q1, m, q2, q3⟩ := q
          simp at q1 q2
          subst q2
          exact ⟨q1.symm, q3⟩
        have nl : m0.own = true → ∀ p, ¬ Lent os mr p i := fun ho p q => by
          obtain ⟨q1, _⟩ := q
          obtain ⟨m, _, q2⟩ := L.jj p i q1
          exact (atS i m q2).2 ho rfl
        refine ⟨by simp [L.len], by rw [L.sl]; split <;> simp, fun p y e => ?_, fun p k e => ?_, fun p p' k e e' => ?_, fun j m e => ?_⟩
        · cases p with
          | zero => simp at e
          | succ p => simpa using L.dd p y (by simpa using e)
        · cases p with
          | zero => simp at e; subst e; exact ⟨m0, by simp, em⟩
          | succ p =>
            obtain ⟨m, q1, q2⟩ := L.jj p k (by simpa using e)
            exact ⟨m, by simpa using q1, (atS k m q2).1⟩
        · cases p with
          | zero =>
            obtain ⟨ek, ho⟩ := n0 k e
            subst ek
            cases p' with
            | zero => rfl
            | succ p' => exact absurd (Lent.succ.mp e') (nl ho p')
          | succ p =>
            cases p' with
            | zero =>
              obtain ⟨ek, ho⟩ := n0 k e'
              subst ek
              exact absurd (Lent.succ.mp e) (nl ho p)
            | succ p' => exact congrArg (· + 1) (L.inj p p' k (Lent.succ.mp e) (Lent.succ.mp e'))
        · obtain ⟨h1, h2⟩ := L.st j m e
          obtain ⟨h3, h4⟩ := atS j m h1
          refine ⟨h3, fun p q => ?_⟩
          cases p with
          | zero =>
            obtain ⟨ej, ho⟩ := n0 j q
            exact h4 ho ej.symm
          | succ p => exact h2 p (Lent.succ.mp q)
theorem back_len : ∀ {os : List Ov} {ms : List M} {fs : List (Option M)} {S : SS}, (back os ms fs S).length = S.length
  | [], _, _, _ => by unfold back; rfl
  | .d x :: os, [], _, _ => by unfold back; rfl
  | .d x :: os, _ :: _, [], _ => by unfold back; rfl
  | .d x :: os, m :: ms, f :: fs, S => by
    show (back os ms fs S).length = _
    exact back_len
  | .j x :: os, [], _, _ => by unfold back; rfl
  | .j x :: os, _ :: _, [], _ => by unfold back; rfl
  | .j i :: os, m :: ms, f :: fs, S => by
    show (back os ms fs (if m.own then S.set i f else S)).length = _
    rw [back_len]
    split <;> simp
theorem back_at {j : Nat} {m : M} : ∀ {os : List Ov} {ms : List M} {fs : List (Option M)} {S : SS}, (back os ms fs S).at j = some m → (∃ p, Lent os ms p j ∧ fs[p]? = some (some m)) ∨ S.at j = some m
  | [], _, _, _, h => .inr (by unfold back at h; exact h)
  | .d x :: os, [], _, _, h => .inr (by unfold back at h; exact h)
  | .d x :: os, _ :: _, [], _, h => .inr (by unfold back at h; exact h)
  | .d x :: os, m' :: ms, f :: fs, S, h => by
    have h : (back os ms fs S).at j = some m := h
    rcases back_at h with ⟨p, h1, h2⟩ | h1
    · exact .inl ⟨p + 1, Lent.succ.mpr h1, by simpa using h2⟩
    · exact .inr h1
  | .j x :: os, [], _, _, h => .inr (by unfold back at h; exact h)
  | .j x :: os, _ :: _, [], _, h => .inr (by unfold back at h; exact h)
  | .j i :: os, m' :: ms, f :: fs, S, h => by
    have h : (back os ms fs (if m'.own then S.set i f else S)).at j = some m := h
    rcases back_at h with ⟨p, h1, h2⟩ | h1
    · exact .inl ⟨p + 1, Lent.succ.mpr h1, by simpa using h2⟩
    · cases ho : m'.own with
      | false => rw [ho] at h1; exact .inr h1
      | true =>
        rw [ho] at h1
        rcases SS.at_set h1 with ⟨e1, e2⟩ | ⟨_, e⟩
        · subst e1
          exact .inl ⟨0, ⟨by simp, m', by simp, ho⟩, by simp [e2]⟩
        · exact .inr e

/-! ### what a def promises -/
noncomputable def spD (K : KG) (np : Nat) (g : List M → CR) : Sp := fun vs H Q E => ∃ F O ms r fin, vs.length = np ∧ ms.length = np ∧ Bs H F O ∧ (∀ p m, ms[p]? = some m → ∃ v, vs[p]? = some v ∧ RepM K H F O (.s p, []) v m) ∧ g ms = .ok r fin ∧
  ∀ v H' F' O', Stp H F O H' F' O' → Bs H' F' O' → RepM K H' F' O' (.r, []) v r → (∀ p m, fin[p]? = some (some m) → ∃ w, vs[p]? = some w ∧ RepM K H' F' O' (.s p, []) w m) → Q v H'
/-- room where no repr is under way -/
structure RoomG (k : Nat) (A : Around) : Prop where
  rm : Room k A
  gd : A.guards = some []
theorem RoomG.deeper {k : Nat} {A : Around} (r : RoomG (k + 1) A) (env : Env) : RoomG k (A.deeper env) := ⟨r.rm.deeper env, r.gd⟩
/-- a def's promise where no repr is under way -/
structure FnG (P : Program) (w : World) (K : PySem.W.Frag) (mg : Str → Option Value) (base : Heap) (k : Nat) (f : Addr) (fd : FuncData) (ps : List Str) (sp : Sp) : Prop where
  len : ∀ vs H Q E, sp vs H Q E → vs.length = ps.length
  run : ∀ (A : Around) (outer : List Env) (s : Shared) (H : Hp) (args : Args) (us : List Value) (vs : List V) (Q : VK) (E : XK), RoomG k A → Env0 P w K mg base A outer s H → BindsTo s fd args (ps.zip us) → Vals vs us → sp vs H Q E →
    codeAny (model P w) A (.call (.ref f) args) (L2.CR CX0 outer P w H s Q E) s
section
variable {X : Cx} {k : Nat} {f : Addr} {fd : FuncData} {ps : List Str} {sp : Sp} {E : XK} {x : Str} {p pos : Pos} {e : Expr} {es : List Expr} {t : TA}
theorem run_g {pins : List (Addr × Obj)} {σ : St} {H : Hp} {s : Shared} {Q : VK} {us : List Value} {vs : List V} (F : FnG X.prog X.w X.K X.mg X.base k f fd ps sp) (hr : RoomG k X.A) (hb : Binds X.K fd ps [])
    (I : Inv X pins σ H s) (r : Vals vs us) (h : sp vs H Q E) : wpAny (model X.prog X.w) X.A (call (.ref f) us) (EP X pins σ Q) X.xe s := by
  have hl : us.length = ps.length := by rw [← r.length]; exact F.len _ _ _ _ h
  have hb' := hb s us I.kIn (by rw [List.append_nil]; exact hl)
  rw [List.append_nil] at hb'
  refine wpAny_call (codeAny_mono (F.run X.A X.stack s H ⟨us, []⟩ us vs Q E hr I.env0 hb' r h) fun r s' hq => ?_)
  match r, hq with
  | .ok (.ret u), hq => exact I.after hq
theorem pe_callG (F : FnG X.prog X.w X.K X.mg X.base k f fd ps sp) (hr : RoomG k X.A) (hg : Gl X x) (hm : X.mg x = some (.ref f)) (hk : PySem.W.keepIn X.K (.ref f) = true) (hb : Binds X.K fd ps [])
    (ha : PA X (e :: es) t) (hdb : (x == ("__debug__" : Str)) = false := by decide) (he : starEach (e :: es) X.env = (false, eval e X.env) :: starEach es X.env := by rfl) (hpl : (backTo pos (starEach es X.env)).any (·.1) = false := by rfl) :
    PE X (.Call (.Name x p) (e :: es) [] pos) (tCall sp [] E t) :=
  ⟨fun pins s σ H Q I h => wpAny_Call_Name_kw (ld_glob I hg hm (PySem.W.callWith_K (h₀ := X.base) I.ok.mod.kin hk (thn (ha.run pos pins s σ H _ I h) fun us s1 ⟨vs, H1, I1, r, q⟩ =>
    ⟨I1.kIn, run_g (E := E) F hr hb I1 r (by have q : sp (vs ++ []) H1 Q E := q; rw [List.append_nil] at q; exact q)⟩) he hpl) hdb)⟩
end
/-- a def of the text, whatever its defaults are -/
structure FunV (K : PySem.W.Frag) (x qual : Str) (st : Stmt) (f : Addr) (fd : FuncData) : Prop where
  ex : ∃ (oc : Value) (od : Option Addr) (dV kV doc pm : Value) (an : Option Addr) (cdv ct : Value) (osl : Array (Option Value)),
    fd = PySem.W.fnOf x qual (defArgs st) (defBody st) (defScope st) dV kV doc pm an cdv ct ∧ K.lookup f = some ⟨oc, od, .func fd, osl⟩ ∧ PySem.W.codeIn K cdv qual = true
  kp : PySem.W.keepIn K (.ref f) = true
theorem toV {K : PySem.W.Frag} {x qual : Str} {st : Stmt} {f : Addr} {fd : FuncData} (F : Fun K x qual st f fd) : FunV K x qual st f fd :=
  let ⟨oc, od, kV, doc, pm, an, cdv, ct, osl, e, lk, hcd⟩ := F.ex
  ⟨⟨oc, od, .none, kV, doc, pm, an, cdv, ct, osl, e, lk, hcd⟩, F.kp⟩
theorem ok_gV {P : Program} {w : World} {K : PySem.W.Frag} {mg : Str → Option Value} {base : Heap} {x qual : Str} {st : Stmt} {f : Addr} {fd : FuncData} {N ps : List Str} {k : Nat} {sp : Sp} (F : FunV K x qual st f fd) (S : FnScope N ps (defScope st)) (len : ∀ vs H Q E, sp vs H Q E → vs.length = ps.length)
    (hbody : ∀ (cdv : Value) (A : Around) (outer : List Env) (s : Shared) (H : Hp) (vs : List V) (Q : VK) (E : XK), RoomG k (A.deeper (envOfC qual (defScope st) s.heap.objs.size f cdv)) → sp vs H Q E →
      ∃ t, PSs (cxOf CX0 P w K mg base N qual (defScope st) f cdv A outer s H E).nox (defBody st) t ∧ t { nx := fun _ H' => Q .non H', rt := Q } (L2.start N vs) H) : FnG P w K mg base (k + 1) f fd ps sp := by
  obtain ⟨oc, od, dV, kV, doc, pm, an, cdv, ct, osl, rfl, lk, hcd⟩ := F.ex
  refine ⟨len, fun A outer s H args us vs Q E hr e0 hb r hsp => ?_⟩
  have hl := len _ _ _ _ hsp
  have kx : ∀ b o, base.get? b = some o → s.heap.get? b = some o := fun b o e => (e0.bs b o e).1
  have KX : K.In s.heap := e0.mod.kin.keeps kx
  refine codeAny_call_function hr.rm.depth (KX _ _ lk) rfl S.co S.gen rfl (PySem.W.codeRec_of KX hcd) (hb _ _ _ _ ?_)
  refine wpAny_newFunctionEnv_cells S.kind (fun ⟨n, v⟩ hy => ?_) fun env he s1 y => ?_
  · rcases S.par n (List.of_mem_zip hy).1 with q | q
    · exact .inl q
    · exact .inr ⟨q, PySem.W.cellsFrom_some _ _ _ (.inl q)⟩
  · subst he
    refine ⟨(e0.mod.nolimit.keeps kx).keeps y.toInCall.keep, codeAny_func ?_⟩
    obtain ⟨t, ht, hq⟩ := hbody cdv A outer s H vs Q E (hr.deeper _) hsp
    have I : L2.Inv (cxOf CX0 P w K mg base N qual (defScope st) f cdv A outer s H E) [] (L2.start N vs) H s1 := inv_start S hr.rm.hd e0 hl r y
    have hw := ht.nox.run [] s1 (L2.start N vs) H _ I hq
    refine wpAny_mono hw (fun fl s' hs => ?_) fun e s' hs => hs
    have done : ∀ {σ' : St} {H' : Hp} {v : V} {u : Value}, L2.Inv (cxOf CX0 P w K mg base N qual (defScope st) f cdv A outer s H E) [] σ' H' s' → RelV v u → Q v H' → L2.CE outer P w H s Q u s' :=
      fun {σ' H' v u} J rv q => ⟨v, H', J.os, J.bare, J.base, J.hok, rv, q⟩
    cases fl with
    | ret u =>
      obtain ⟨v, σ', H', J, rv, q⟩ := hs
      exact done J rv q
    | next =>
      obtain ⟨σ', H', J, q⟩ := hs
      exact done (v := V.non) (u := Value.none) J rfl q
    | brk =>
      obtain ⟨_, _, _, q⟩ := hs
      exact False.elim q
    | cont =>
      obtain ⟨_, _, _, q⟩ := hs
      exact False.elim q
structure FnD (P : Program) (w : World) (K : PySem.W.Frag) (mg : Str → Option Value) (base : Heap) (n : Nat) (x : Str) (np : Nat) (g : List M → CR) : Prop where
  ex : ∃ (f : Addr) (fd : FuncData) (ps : List Str), ps.length = np ∧ FnG P w K mg base n f fd ps (spD (kg0 K mg) np g) ∧ mg x = some (.ref f) ∧ PySem.W.keepIn K (.ref f) = true ∧ Binds K fd ps []
noncomputable def mCall (g : List M → CR) (fas : FA) : FM := fun S => (fas S).bind fun os S1 => match lend os S1 with
  | some (ms, S2) => (match g ms with
    | .ok r fin => .ok r (back os ms fin S2)
    | .ex x fin => .ex x (back os ms fin S2)
    | .no => .no)
  | none => .no

section
open Classical
noncomputable def posOf (os : List Ov) (ms : List M) (i : Nat) : Option Nat := if h : ∃ p, Lent os ms p i then some h.choose else none
theorem posOf_of {os : List Ov} {ms : List M} {i p : Nat} (inj : ∀ p p' i, Lent os ms p i → Lent os ms p' i → p = p') (h : Lent os ms p i) : posOf os ms i = some p := by
  unfold posOf
  have hx : ∃ p, Lent os ms p i := ⟨p, h⟩
  rw [dif_pos hx]
  exact congrArg some (inj _ _ i hx.choose_spec h)
theorem posOf_none {os : List Ov} {ms : List M} {i : Nat} (h : ∀ p, ¬ Lent os ms p i) : posOf os ms i = none := by
  unfold posOf
  rw [dif_neg (fun ⟨p, q⟩ => h p q)]
noncomputable def inO (os : List Ov) (ms : List M) (O : OW) : OW := fun a => match O a with
  | some (.s i, pth) => (match posOf os ms i with
    | some p => some (.s p, pth)
    | none => none)
  | _ => none
noncomputable def outO (os : List Ov) (ms : List M) (O Oc : OW) : OW := fun a => match Oc a with
  | some (.s p, pth) => (match os[p]? with
    | some (.j i) => if Lent os ms p i then some (.s i, pth) else none
    | _ => none)
  | some (.r, pth) => some (.r, pth)
  | none => (match O a with
    | some (.s i, pth) => (match posOf os ms i with
      | some _ => none
      | none => some (.s i, pth))
    | _ => none)
section
variable {os : List Ov} {ms : List M} {O Oc : OW} {a : Addr} {q : Pl}
theorem inO_some (h : inO os ms O a = some q) : ∃ q', O a = some q' := by
  unfold inO at h
  cases e : O a with
  | none => rw [e] at h; cases h
  | some q' => exact ⟨q', rfl⟩
theorem outO_some (h : outO os ms O Oc a = some q) : (∃ q', Oc a = some q') ∨ (Oc a = none ∧ ∃ i pth, O a = some (.s i, pth) ∧ posOf os ms i = none ∧ q = (.s i, pth)) := by
  unfold outO at h
  cases e : Oc a with
  | some q' => exact .inl ⟨q', rfl⟩
  | none =>
    rw [e] at h
    dsimp only at h
    cases e2 : O a with
    | none => rw [e2] at h; cases h
    | some z =>
      rw [e2] at h
      obtain ⟨rt, pth⟩ := z
      cases rt with
      | r => cases h
      | s i =>
        dsimp only at h
        cases e3 : posOf os ms i with
        | some _ => rw [e3] at h; cases h
        | none => rw [e3] at h; cases h; exact .inr ⟨rfl, i, pth, rfl, e3, rfl⟩
theorem inO_none_of {i : Nat} {pth : List Nat} (h : O a = some (.s i, pth)) (hp : posOf os ms i = none) : inO os ms O a = none := by
  unfold inO
  rw [h]
  dsimp only
  rw [hp]
end
end
section
variable {X : Cx} {e : Expr} {es : List Expr} {p pos : Pos} {x : Str} {n np : Nat} {g : List M → CR}
/-- the operands are handed over, what is lent comes back -/
noncomputable def callR (g : List M → CR) (os : List Ov) (S1 : SS) : R M := match lend os S1 with
  | some (ms, S2) => (match g ms with
    | .ok r fin => .ok r (back os ms fin S2)
    | .ex x fin => .ex x (back os ms fin S2)
    | .no => .no)
  | none => .no
theorem call_core {K : KG} {H1 F1 : Hp} {O1 : OW} {σ : St} {S1 S' : SS} {m : M} {os : List Ov} {vs : List V} {Q : VK} {E : XK} {np : Nat} {g : List M → CR} (r1 : Rp K H1 F1 O1 σ S1) (ro : RepOvs K F1 σ vs os) (eos : os.length = np) (h2 : callR g os S1 = .ok m S')
    (k : ∀ v H' F' O', Stp H1 F1 O1 H' F' O' → Rp K H' F' O' σ S' → RepM K H' F' O' (.r, []) v m → Q v H') : spD K np g vs H1 Q E := by
  unfold callR at h2
  cases el : lend os S1 with
  | none => rw [el] at h2; cases h2
  | some z =>
    obtain ⟨ms, S2⟩ := z
    rw [el] at h2
    dsimp only at h2
    cases eg : g ms with
    | ex x fin => rw [eg] at h2; cases h2
    | no => rw [eg] at h2; cases h2
    | ok rr fin =>
      rw [eg] at h2
      cases h2
      have L := lend_ok el
      have rolen : ∀ {vs : List V} {os : List Ov}, RepOvs K F1 σ vs os → vs.length = os.length := fun {vs os} h => by
        induction h with
        | nil => rfl
        | cons _ _ ih => simp [ih]
      have roget : ∀ {vs : List V} {os : List Ov} {i : Nat} {o : Ov}, RepOvs K F1 σ vs os → os[i]? = some o → ∃ v, vs[i]? = some v ∧ RepOv K F1 σ v o := fun {vs os i o} h => by
        induction h generalizing i with
        | nil => intro e; simp at e
        | cons h _ ih =>
          intro e
          cases i with
          | zero => simp at e; subst e; exact ⟨_, by simp, h⟩
          | succ i =>
            obtain ⟨v, q1, q2⟩ := ih (by simpa using e)
            exact ⟨v, by simpa using q1, q2⟩
      have inBs : Bs H1 F1 (inO os ms O1) := ⟨r1.bs.fh, fun a q hq => by
        obtain ⟨q', e⟩ := inO_some hq
        exact r1.bs.fo a q' e⟩
      refine ⟨F1, inO os ms O1, ms, m, fin, by rw [rolen ro, eos], by rw [L.len, eos], inBs, fun p mm hp => ?_, eg, fun v H2 F2 Oc st2 bs2 rm rf => ?_⟩
      · -- the arguments
        have hlt : p < os.length := by rw [← L.len]; exact (List.getElem?_eq_some_iff.mp hp).1
        have eo : os[p]? = some os[p] := List.getElem?_eq_getElem hlt
        obtain ⟨v, hv, rv⟩ := roget ro eo
        refine ⟨v, hv, ?_⟩
        cases eop : os[p] with
        | d y =>
          rw [eop] at eo rv
          have := L.dd p y eo
          rw [hp] at this
          cases this
          exact rv
        | j i =>
          rw [eop] at eo rv
          obtain ⟨m', q1, q2⟩ := L.jj p i eo
          rw [hp] at q1
          cases q1
          obtain ⟨w, hw, rw'⟩ := r1.sl i _ q2
          have z : σ[i]? = some (some v) := rv
          rw [hw] at z
          cases z
          cases ho : mm.own with
          | false =>
            cases mm with
            | d y => exact rw'
            | exn _ => exact rw'
            | lst _ => cases ho
            | _ => cases ho
          | true =>
            have hl : Lent os ms p i := ⟨eo, mm, hp, ho⟩
            exact RepM.move (Le.refl _) (fun a o _ e1 e2 => ⟨e2, by unfold inO; rw [e1]; dsimp only; rw [posOf_of L.inj hl]⟩) rw'
      · -- behind the call
        have keepO : ∀ a i pth, O1 a = some (.s i, pth) → posOf os ms i = none → Oc a = none ∧ ∀ o, H1 a = some o → H2 a = some o := fun a i pth e hp => by
          have hin := inO_none_of (os := os) (ms := ms) e hp
          refine ⟨?_, fun o ho => st2.kp a o ho hin⟩
          cases e2 : Oc a with
          | none => rfl
          | some q =>
            rcases st2.nw a q e2 with ⟨q', z⟩ | z
            · rw [hin] at z; cases z
            · obtain ⟨_, u, hu⟩ := r1.bs.fo a _ e
              rw [hu] at z; cases z
        have st3 : Stp H1 F1 O1 H2 F2 (outO os ms O1 Oc) := by
          refine ⟨st2.ff, fun a o ha e => st2.kp a o ha ?_, fun a q hq => ?_, fun a o ha => ?_, st2.al⟩
          · unfold inO; rw [e]
          · rcases outO_some hq with ⟨q', e⟩ | ⟨_, i, pth, e, _⟩
            · rcases st2.nw a q' e with ⟨q2, z⟩ | z
              · exact .inl (inO_some z)
              · exact .inr z
            · exact .inl ⟨_, e⟩
          · rcases st2.fz a o ha with z | ⟨q, z⟩ | z
            · exact .inl z
            · exact .inr (.inl (inO_some z))
            · exact .inr (.inr z)
        have bs3 : Bs H2 F2 (outO os ms O1 Oc) := by
          refine ⟨bs2.fh, fun a q hq => ?_⟩
          rcases outO_some hq with ⟨q', e⟩ | ⟨e0, i, pth, e, hp, _⟩
          · exact bs2.fo a q' e
          · obtain ⟨z1, u, z2⟩ := r1.bs.fo a _ e
            obtain ⟨_, k2⟩ := keepO a i pth e hp
            refine ⟨?_, u, k2 u z2⟩
            cases e5 : F2 a with
            | none => rfl
            | some y =>
              rcases st2.fz a y e5 with z | ⟨q', z⟩ | z
              · rw [z1] at z; cases z
              · rw [inO_none_of (os := os) (ms := ms) e hp] at z; cases z
              · rw [z2] at z; cases z
        refine k v H2 F2 _ st3 ⟨bs3, ?_, fun j mm hj => ?_⟩ (RepM.move (Le.refl _) (fun a o _ e1 e2 => ⟨e2, by unfold outO; rw [e1]⟩) rm)
        · rw [back_len, L.sl]; exact r1.len
        · rcases back_at hj with ⟨p, hl, hfp⟩ | hj
          · obtain ⟨w, hw, rw'⟩ := rf p mm hfp
            obtain ⟨v', hv', rv'⟩ := roget ro hl.1
            rw [hw] at hv'
            cases hv'
            refine ⟨w, rv', RepM.move (Le.refl _) (fun a o _ e1 e2 => ⟨e2, ?_⟩) rw'⟩
            unfold outO
            rw [e1]
            dsimp only
            rw [hl.1]
            dsimp only
            rw [if_pos hl]
          · obtain ⟨h3, h4⟩ := L.st j mm hj
            obtain ⟨w, hw, rw'⟩ := r1.sl j mm h3
            have hp := posOf_none h4
            refine ⟨w, hw, rw'.stay st2.ff fun a o pp e1 e2 => ?_⟩
            obtain ⟨k1, k2⟩ := keepO a j pp e1 hp
            refine ⟨k2 o e2, ?_⟩
            unfold outO
            rw [k1]
            dsimp only
            rw [e1]
            dsimp only
            rw [hp]
theorem call_rd {K : KG} {fas : FA} {σ : St} {H : Hp} {Q : VK} (h : rdM K (mCall g fas) σ H Q) (hnp : ∀ S os S', fas S = .ok os S' → os.length = np) : tCall (spD K np g) [] (fun _ _ _ => False) (rdA K fas) σ H Q := by
  obtain ⟨F, O, S, m, S', r, hf, k⟩ := h
  obtain ⟨os, S1, h1, h2⟩ := R.bind_ok hf
  refine ⟨F, O, S, os, S1, r, h1, fun vs H1 F1 O1 st1 r1 ro => ?_⟩
  show spD K np g (vs ++ []) H1 Q _
  rw [List.append_nil]
  exact call_core r1 ro (hnp S os S1 h1) h2 fun v H' F' O' st r' rm => k v H' F' O' (st1.trans st) r' rm
/-- how many operands there are -/
noncomputable def Many (f : FA) (n : Nat) : Prop := ∀ S os S', f S = .ok os S' → os.length = n
theorem many_nil : Many aNil 0 := fun S os S' h => by cases h; rfl
theorem many_cons {f : FE} {g : FA} {n : Nat} (h : Many g n) : Many (aCons f g) (n + 1) := fun S os S' hf => by
  obtain ⟨o, S1, h1, h2⟩ := R.bind_ok hf
  obtain ⟨or, S2, h3, h4⟩ := R.bind_ok h2
  cases h4
  exact congrArg (· + 1) (h _ _ _ h3)
theorem dm_call {fas : FA} (F : FnD X.prog X.w X.K X.mg X.base n x np g) (hr : RoomG n X.A) (hg : Gl X x) (ha : DA X fas (e :: es)) (hm : Many fas np) (hdb : (x == ("__debug__" : Str)) = false := by decide)
    (he : starEach (e :: es) X.env = (false, eval e X.env) :: starEach es X.env := by rfl) (hpl : (backTo pos (starEach es X.env)).any (·.1) = false := by rfl) (hcm : X.calm = true := by rfl) : DM X (mCall g fas) (.Call (.Name x p) (e :: es) [] pos) := by
  obtain ⟨f, fd, ps, hps, hF, hmg, hk, hb⟩ := F.ex
  rw [← kg_calm hcm] at hF
  exact PE.imp (pe_callG (E := fun _ _ _ => False) hF hr hg hmg hk hb ha hdb he hpl) fun σ H Q h => call_rd h hm
end
/-! ### a def -/
noncomputable def finOf (kp : Nat → Bool) (S : SS) : Nat → Nat → List (Option M)
  | _, 0 => []
  | i, n + 1 => (if kp i then S.at i else none) :: finOf kp S (i + 1) n
noncomputable def runFn (np nl : Nat) (kp : Nat → Bool) (body : FS) : List M → CR := fun ms => if ms.length = np then (match body (ms.map some ++ List.replicate (nl - np) none) with
  | .ok (.rt m) S => .ok m (finOf kp S 0 np)
  | .ok .nx S => .ok (.d .non) (finOf kp S 0 np)
  | .ex x S => .ex x (finOf kp S 0 np)
  | _ => .no) else .no
theorem finOf_at {kp : Nat → Bool} {S : SS} {m : M} : ∀ {n i p : Nat}, (finOf kp S i n)[p]? = some (some m) → kp (i + p) = true ∧ S.at (i + p) = some m ∧ p < n
  | 0, i, p, h => by simp [finOf] at h
  | n + 1, i, 0, h => by
    simp only [finOf, List.getElem?_cons_zero, Option.some.injEq] at h
    split at h
    · rename_i hk; exact ⟨hk, h, Nat.succ_pos _⟩
    · cases h
  | n + 1, i, p + 1, h => by
    simp only [finOf, List.getElem?_cons_succ] at h
    obtain ⟨h1, h2, h3⟩ := finOf_at h
    have e : i + 1 + p = i + (p + 1) := by omega
    rw [e] at h1 h2
    exact ⟨h1, h2, Nat.succ_lt_succ h3⟩
theorem fn_okV0 {P : Program} {w : World} {K : PySem.W.Frag} {mg : Str → Option Value} {base : Heap} {x qual : Str} {st : Stmt} {f : Addr} {fd : FuncData} {N ps : List Str} {k : Nat} {kp : Nat → Bool} {body : FS} (F : FunV K x qual st f fd) (S : FnScope N ps (defScope st))
    (hbody : ∀ (cdv : Value) (A : Around) (outer : List Env) (s : Shared) (H : Hp) (E : XK), RoomG k (A.deeper (envOfC qual (defScope st) s.heap.objs.size f cdv)) → DSs (cxOf CX0 P w K mg base N qual (defScope st) f cdv A outer s H E).nox kp body (defBody st)) :
    FnG P w K mg base (k + 1) f fd ps (spD (kg0 K mg) ps.length (runFn ps.length N.length kp body)) := by
  refine ok_gV F S (fun vs H Q E ⟨_, _, _, _, _, h, _⟩ => h) fun cdv A outer s H vs Q E hr hsp => ⟨_, hbody cdv A outer s H E hr, ?_⟩
  obtain ⟨F', O, ms, r, fin, hv, hm, bs, args, hg, k⟩ := hsp
  unfold runFn at hg
  rw [if_pos hm] at hg
  have hst : ∀ p v, vs[p]? = some v → (L2.start N vs)[p]? = some (some v) := fun p v e => by
    unfold L2.start
    have hl := (List.getElem?_eq_some_iff.mp e).1
    rw [List.getElem?_append_left (by simpa using hl), List.getElem?_map, e]
    rfl
  have r0 : Rp (kg0 K mg) H F' O (L2.start N vs) (ms.map some ++ List.replicate (N.length - ps.length) none) := by
    refine ⟨bs, by unfold L2.start; simp [hm, hv], fun i m e => ?_⟩
    have e' : ms[i]? = some m := by
      unfold SS.at at e
      by_cases hl : i < (ms.map some).length
      · rw [List.getElem?_append_left hl, List.getElem?_map] at e
        cases e2 : ms[i]? with
        | none => rw [e2] at e; cases e
        | some z => rw [e2] at e; exact e
      · rw [List.getElem?_append_right (by omega)] at e
        rw [List.getElem?_replicate] at e
        split at e <;> cases e
    obtain ⟨v, h1, h2⟩ := args i m e'
    exact ⟨v, hst i v h1, h2⟩
  have fins : ∀ {S' : SS} {σ' : St} {H' F'' : Hp} {O' : OW}, Rp (kg0 K mg) H' F'' O' σ' S' → Kp kp (L2.start N vs) σ' → ∀ p m, (finOf kp S' 0 ps.length)[p]? = some (some m) → ∃ w, vs[p]? = some w ∧ RepM (kg0 K mg) H' F'' O' (.s p, []) w m := fun {S' σ' H' F'' O'} r1 kk p m e => by
    obtain ⟨h1, h2, h3⟩ := finOf_at e
    rw [Nat.zero_add] at h1 h2
    obtain ⟨w, hw, rm⟩ := r1.sl p m h2
    have hl : p < vs.length := by rw [hv]; exact h3
    have e2 := List.getElem?_eq_getElem hl
    rw [kk.2 p h1, hst p _ e2] at hw
    cases hw
    exact ⟨_, e2, rm⟩
  show rdS (kg0 K mg) kp body _ (L2.start N vs) H
  cases eb : body (ms.map some ++ List.replicate (N.length - ps.length) none) with
  | no => rw [eb] at hg; cases hg
  | ex x S' => rw [eb] at hg; cases hg
  | ok fl S' =>
    rw [eb] at hg
    refine ⟨F', O, _, fl, S', r0, eb, ?_⟩
    cases fl with
    | nx =>
      cases hg
      exact fun σ' H' F'' O' st' r' kk => k .non H' F'' O' st' r'.bs .non (fins r' kk)
    | rt m =>
      cases hg
      exact fun v σ' H' F'' O' st' r' kk rm => k v H' F'' O' st' r'.bs rm (fins r' kk)
    | bk => cases hg
    | ct => cases hg
theorem fn_okV {P : Program} {w : World} {K : PySem.W.Frag} {mg : Str → Option Value} {base : Heap} {x qual : Str} {st : Stmt} {f : Addr} {fd : FuncData} {k : Nat} (N ps : List Str) (np nl : Nat) (kp : Nat → Bool) (body : FS) (g : List M → CR) (hnp : ps.length = np) (hnl : N.length = nl)
    (hg : g = runFn np nl kp body) (F : FunV K x qual st f fd) (S : FnScope N ps (defScope st))
    (hbody : ∀ (cdv : Value) (A : Around) (outer : List Env) (s : Shared) (H : Hp) (E : XK), RoomG k (A.deeper (envOfC qual (defScope st) s.heap.objs.size f cdv)) → DSs (cxOf CX0 P w K mg base N qual (defScope st) f cdv A outer s H E).nox kp body (defBody st)) :
    FnG P w K mg base (k + 1) f fd ps (spD (kg0 K mg) np g) := by
  subst hnp hnl hg
  exact fn_okV0 F S hbody
theorem fn_ok {P : Program} {w : World} {K : PySem.W.Frag} {mg : Str → Option Value} {base : Heap} {x qual : Str} {st : Stmt} {f : Addr} {fd : FuncData} {k : Nat} (N ps : List Str) (np nl : Nat) (kp : Nat → Bool) (body : FS) (g : List M → CR) (hnp : ps.length = np) (hnl : N.length = nl)
    (hg : g = runFn np nl kp body) (F : Fun K x qual st f fd) (S : FnScope N ps (defScope st))
    (hbody : ∀ (cdv : Value) (A : Around) (outer : List Env) (s : Shared) (H : Hp) (E : XK), RoomG k (A.deeper (envOfC qual (defScope st) s.heap.objs.size f cdv)) → DSs (cxOf CX0 P w K mg base N qual (defScope st) f cdv A outer s H E).nox kp body (defBody st)) :
    FnG P w K mg base (k + 1) f fd ps (spD (kg0 K mg) np g) :=
  fn_okV N ps np nl kp body g hnp hnl hg (toV F) S hbody

noncomputable def semR (K : KG) (g : D → D → Option M) : R2 := fun v u H Q => ∃ F x y m, Le F H ∧ View K H F v x ∧ View K H F u y ∧ g x y = some m ∧ Wish K H F m Q
theorem opD_of {X : Cx} {f : Value → Value → Sem Value} {g : D → D → Option M} (h : OpR X f (semR (kg X) g)) : OpD X f g := ⟨_, h, fun H F v u x y m Q l vx vy e w => ⟨F, x, y, m, l, vx, vy, e, w⟩⟩
section
variable {K : KG} {H F : Hp} {Q : VK}
theorem Wish.int {i : Int} (w : Wish K H F (.d (.int i)) Q) : Q (.int i) H := w.d _ _ rfl (.int i)
theorem Wish.bl {i : Bool} (w : Wish K H F (.d (.bl i)) Q) : Q (.bl i) H := w.d _ _ rfl (.bl i)
theorem Wish.str {i : Str} (w : Wish K H F (.d (.str i)) Q) : Q (.str i) H := w.d _ _ rfl (.str i)
end

/-! ### arithmetic -/
noncomputable def mulOk (i j : Int) : Bool := decide (-(2 ^ 64) < i ∧ i < 2 ^ 64) || decide (-(2 ^ 64) < j ∧ j < 2 ^ 64)
noncomputable def divOk (j : Int) : Bool := decide (j ≠ 0 ∧ -(2 ^ 128) < j ∧ j < 2 ^ 128)
/-- a text so many times -/
noncomputable def repS (x : Str) (k : Nat) : Str := ⟨(List.replicate k x.cps).foldl (· ++ ·) #[]⟩
noncomputable def addD : D → D → Option M
  | .int i, .int j => some (.d (.int (i + j)))
  | .int i, .bl b => some (.d (.int (i + b2i b)))
  | .str x, .str y => if x.length + y.length ≤ line then some (.d (.str (x ++ y))) else none
  | .lst xs, .lst ys => if xs.length + ys.length ≤ line then some (.lst (xs ++ ys)) else none
  | .tup xs, .tup ys => if xs.length + ys.length ≤ line then some (.d (.tup (xs ++ ys))) else none
  | _, _ => none
noncomputable def mulD : D → D → Option M
  | .int i, .int j => if mulOk i j = true then some (.d (.int (i * j))) else none
  | .lst xs, .int k => if (-(2 ^ 63) ≤ k ∧ k < 2 ^ 63) ∧ xs.length * k.toNat ≤ line then some (.lst (List.replicate k.toNat xs).flatten) else none
  | .tup xs, .int k => if 0 ≤ k ∧ k ≤ 10000 ∧ xs ≠ [] ∧ xs.length ≤ 100 then some (.d (.tup (List.replicate k.toNat xs).flatten)) else none
  | .str x, .int k => if 0 ≤ k ∧ k ≤ 1000 ∧ x.length ≤ 1000 then some (.d (.str (repS x k.toNat))) else none
  | _, _ => none
noncomputable def fdivD : D → D → Option M
  | .int i, .int j => if divOk j = true then some (.d (.int (i.fdiv j))) else none
  | _, _ => none
noncomputable def modD : D → D → Option M
  | .int i, .int j => if j ≠ 0 then some (.d (.int (i.fmod j))) else none
  | _, _ => none
noncomputable def powD : D → D → Option M
  | .int i, .int j => if 0 ≤ j ∧ j ≤ 1000000 ∧ i.natAbs < 2 ^ 64 then some (.d (.int (i ^ j.toNat))) else none
  | _, _ => none
theorem RepDs.rep {K : KG} {F : Hp} {v : List V} {d : List D} (h : RepDs K F v d) : ∀ k : Nat, RepDs K F (List.replicate k v).flatten (List.replicate k d).flatten
  | 0 => .nil
  | k + 1 => by
    rw [List.replicate_succ, List.flatten_cons, List.replicate_succ, List.flatten_cons]
    exact h.append (RepDs.rep h k)
section
variable {X : Cx}
theorem Inv.rdl {pins : List (Addr × Obj)} {σ : St} {H : Hp} {s : Shared} {l : Addr} {xs : List V} (I : Inv X pins σ H s) (h : Rd H l (.lst xs)) : xs.length ≤ sizeLine ∧ ∃ (its : List Value) (n : Nat), Vals xs its ∧ xs.length = its.length ∧ s.heap.get? l = some { cls := .type "list", data := .seq its.toArray n } := by
  obtain ⟨z, its, n, r, e⟩ := h.ok I.hok
  exact ⟨z, its, n, r, r.length, e⟩
theorem op_catR : OpR X (binaryOp .Add) (fun x y H Q => ∃ l b xs zs, x = .ref l ∧ y = .ref b ∧ Rd H l (.lst xs) ∧ Rd H b (.lst zs) ∧ xs.length + zs.length ≤ sizeLine ∧ ∀ p, H p = none → Q (.ref p) (upd H p (.lst (xs ++ zs)))) := by
  intro pins s σ H x y v u Q I rx ry h
  obtain ⟨l, b, xs, zs, rfl, rfl, hH, hB, hz, q⟩ := h
  cases rx
  cases ry
  obtain ⟨z, its, n, r, hl, e⟩ := Inv.rdl I hH
  obtain ⟨z2, its2, n2, r2, hl2, e2⟩ := Inv.rdl I hB
  refine PySem.P.add_list e e2 ?_ (by rw [List.size_toArray, List.size_toArray]; omega)
  have ea : its.toArray ++ its2.toArray = (its ++ its2).toArray := by simp
  rw [ea]
  exact ⟨.ref _, _, I.lnew (t' := s.toks) (r.append r2) (by rw [List.length_append]; omega), rfl, q _ I.fresh⟩
theorem op_fdivA : OpR X (binaryOp .FloorDiv) (rI (fun _ j => divOk j = true) fun i j => .int (i.fdiv j)) := opI fun i j _ _ _ _ _ hc q => by
  have h := of_decide_eq_true hc
  exact floordiv_int h.1 q (.inl (PyProof.noPylong_of_log2 (Nat.lt_of_lt_of_le (PySem.Flt.log2_lt_of (k := 128) (by decide) (by omega)) (by decide))))
theorem mulOk_c {i j : Int} (h : mulOk i j = true) : CMul i j := by
  unfold mulOk at h
  rw [Bool.or_eq_true] at h
  rcases h with h | h
  · exact .inl (of_decide_eq_true h)
  · exact .inr (of_decide_eq_true h)
theorem od_add : OpD X (binaryOp .Add) addD := opD_of (by
  intro pins s σ H x y v u Q I rx ry ⟨F, a, b, m, l, va, vb, e, w⟩
  cases a with
  | int i =>
    obtain rfl := va.int
    cases b with
    | int j => obtain rfl := vb.int; cases e; exact op_add pins s σ H _ _ v u Q I rx ry ⟨i, j, rfl, rfl, w.int⟩
    | bl j => obtain rfl := vb.bl; cases e; exact op_add_ib pins s σ H _ _ v u Q I rx ry ⟨i, j, rfl, rfl, w.int⟩
    | _ => cases e
  | str i =>
    obtain rfl := va.str
    cases b with
    | str j =>
      obtain rfl := vb.str
      have e : (if i.length + j.length ≤ line then some (M.d (.str (i ++ j))) else none) = some m := e
      split at e
      · rename_i hz; cases e; exact op_add_str pins s σ H _ _ v u Q I rx ry ⟨i, j, rfl, rfl, by rw [← line_eq]; exact hz, w.str⟩
      · cases e
    | _ => cases e
  | lst i =>
    obtain ⟨a1, vs, rfl, h1, r1⟩ := va.list l
    cases b with
    | lst j =>
      obtain ⟨a2, vs2, rfl, h2, r2⟩ := vb.list l
      have e : (if i.length + j.length ≤ line then some (M.lst (i ++ j)) else none) = some m := e
      split at e
      · rename_i hz
        cases e
        exact op_catR pins s σ H _ _ v u Q I rx ry ⟨a1, a2, vs, vs2, rfl, rfl, h1, h2, by rw [r1.len, r2.len, ← line_eq]; exact hz, fun p hp => w.l _ p _ rfl hp (r1.append r2)⟩
      · cases e
    | _ => cases e
  | tup i =>
    obtain ⟨a1, vs, rfl, h1, r1⟩ := va.tuple l
    cases b with
    | tup j =>
      obtain ⟨a2, vs2, rfl, h2, r2⟩ := vb.tuple l
      have e : (if i.length + j.length ≤ line then some (M.d (.tup (i ++ j))) else none) = some m := e
      split at e
      · rename_i hz
        cases e
        refine op_catA pins s σ H _ _ v u Q I rx ry ⟨a1, a2, vs, vs2, rfl, rfl, h1, h2, by rw [r1.len, r2.len, ← line_eq]; exact hz, fun hv => ?_, fun _ hv => ?_, fun _ _ p hp => w.t _ p _ rfl hp (r1.append r2)⟩
        · subst hv
          cases r1
          cases vb with
          | fz h => exact w.d _ _ rfl h
        · subst hv
          cases r2
          cases va with
          | fz h => exact w.d _ _ rfl (by rw [List.append_nil]; exact h)
      · cases e
    | _ => cases e
  | _ => cases e)
theorem op_repR : OpR X (binaryOp .Mult) (fun x y H Q => ∃ l k xs, x = .ref l ∧ y = .int k ∧ Rd H l (.lst xs) ∧ -(2 ^ 63) ≤ k ∧ k < 2 ^ 63 ∧ xs.length * k.toNat ≤ sizeLine ∧
  ∀ p, H p = none → Q (.ref p) (upd H p (.lst (List.replicate k.toNat xs).flatten))) := by
  intro pins s σ H x y v u Q I rx ry h
  obtain ⟨l, k, xs, rfl, rfl, hH, h1, h2, hz, q⟩ := h
  cases rx
  obtain ⟨t, rfl⟩ := ry
  obtain ⟨z, its, n, r, hl, e⟩ := Inv.rdl I hH
  have hlen : its.toArray.size * k.toNat ≤ sizeLine := by rw [List.size_toArray, ← hl]; exact hz
  have hcap : ¬ its.toArray.size * k.toNat > (2 ^ 63 - 1) / 8 := by
    have : (sizeLine : Nat) ≤ (2 ^ 63 - 1) / 8 := by decide
    omega
  have hfit : ¬ (!Builtin.List.listFitsIndex k) = true := by
    rw [fitsIndex_both h1 h2]
    exact Bool.false_ne_true
  have hlong : ¬ Builtin.List.listTooLong (its.toArray.size * k.toNat) = true := by
    rw [notLongL hlen]
    exact Bool.false_ne_true
  have hnew : List.foldl (fun x1 x2 => x1 ++ x2) #[] (List.replicate (if its.toArray.isEmpty = true then 0 else k.toNat) its.toArray) = (List.replicate k.toNat its).flatten.toArray := by
    have f0 : ∀ m : Nat, List.foldl (fun x1 x2 => x1 ++ x2) #[] (List.replicate m its.toArray) = (List.replicate m its).flatten.toArray := fun m => by
      have := foldl_rep its m []
      rw [List.nil_append] at this
      exact this
    rw [f0]
    cases its with
    | nil => simp
    | cons a r' => rw [if_neg (by simp)]
  refine wpAny_binaryOp_repeat_ref (T := "list") (U := "int") (by decide) ⟨_, e, rfl⟩ (fun s' => typeIs_int s' k t) noFill_list_mul PySem.F.fills_int_mul PySem.F.slot_int_rmul repeat_list PySem.F.slot_int_index.lookup
    (call_meets PySem.F.slot_int_rmul (typeIs_int s k t) PySem.F.entry_int_rmul (PySem.F.args_int_rmul_2 _ _) (int___rmul___int_list k t l its.toArray n)
      ⟨e, rfl, ⟨_, e, rfl⟩, call_meets PySem.F.slot_list_mul ⟨_, e, rfl⟩ PySem.F.entry_list_mul (PySem.F.args_list_mul_2 _ _) (AutoListH.list___mul___list_int_3 l its.toArray n k t hfit hcap hlong) ⟨e, ?_⟩⟩)
  rw [hnew]
  exact ⟨.ref _, _, I.lnew (t' := s.toks) (r.rep k.toNat) (by rw [PyProof.Rows.lm_len_rep_flat, Nat.mul_comm]; exact hz), rfl, q _ I.fresh⟩
theorem tuple_mulW0 (l : Addr) (items : Array Value) (n : Nat) (dd : Option Addr) (sl : Array (Option Value)) (x : Int) (u : Tok) (c0 : (decide (x < -(2 ^ 63)) || decide (x ≥ 2 ^ 63)) = false) (c1 : (items.isEmpty || x == 1) = false) (c2 : (decide (x ≤ 0) || items.isEmpty) = true) :
    Meets (Builtin.«tuple.__mul__» ⟨[.ref l, .int x u], []⟩) (fun _ R s => s.heap.get? l = some { cls := .type "tuple", dict := dd, data := .seq items n, slots := sl } ∧
      R (.ok (.ret (Value.ref s.heap.objs.size))) { s with heap := s.heap.push { cls := Value.type "tuple", data := Data.seq #[] }, toks := s.toks }) :=
  .of_wp fun prog w A R s h => by
    obtain ⟨hp, g, d, tk, os⟩ := s
    obtain ⟨hl, h⟩ := h
    have f1 := AutoSeq1.idx_int
    wp_walk using wpAny_loadPart' hl
    repeat (first
      | (refine wpAny_ite_false (decide_eq_false (by rw [c0]; exact Bool.false_ne_true)) ?_; wp_walk using wpAny_loadPart' hl)
      | (refine wpAny_ite_false (decide_eq_false (by rw [c1]; exact Bool.false_ne_true)) ?_; wp_walk using wpAny_loadPart' hl)
      | (refine wpAny_ite_true (decide_eq_true c2) ?_; wp_walk using wpAny_loadPart' hl))
    exact ⟨_, rfl, h⟩
theorem tuple_mulW1 (l : Addr) (items : Array Value) (n : Nat) (dd : Option Addr) (sl : Array (Option Value)) (x : Int) (u : Tok) (c0 : (decide (x < -(2 ^ 63)) || decide (x ≥ 2 ^ 63)) = false) (c1 : (items.isEmpty || x == 1) = true) :
    Meets (Builtin.«tuple.__mul__» ⟨[.ref l, .int x u], []⟩) (fun _ R s => s.heap.get? l = some { cls := .type "tuple", dict := dd, data := .seq items n, slots := sl } ∧
      R (.ok (.ret (Value.ref l))) { s with heap := s.heap, toks := s.toks }) :=
  .of_wp fun prog w A R s h => by
    obtain ⟨hp, g, d, tk, os⟩ := s
    obtain ⟨hl, h⟩ := h
    have f1 := AutoSeq1.idx_int
    wp_walk using wpAny_loadPart' hl
    repeat (first
      | (refine wpAny_ite_false (decide_eq_false (by rw [c0]; exact Bool.false_ne_true)) ?_; wp_walk using wpAny_loadPart' hl)
      | (refine wpAny_ite_true (decide_eq_true c1) ?_; wp_walk using wpAny_loadPart' hl))
    exact ⟨_, rfl, h⟩
theorem op_repTB : OpR X (binaryOp .Mult) (fun x y H Q => ∃ l k xs, x = .ref l ∧ y = .int k ∧ SqT X.K H l xs ∧ xs ≠ [] ∧ 2 ≤ k ∧ k ≤ 10000 ∧ xs.length ≤ 100 ∧ ∀ p, H p = none → Q (.ref p) (upd H p (.tup (List.replicate k.toNat xs).flatten))) := by
  intro pins s σ H x y v u Q I rx ry h
  obtain ⟨l, k, xs, rfl, rfl, hT, hne, h1, h2, hz, q⟩ := h
  cases rx
  obtain ⟨t, rfl⟩ := ry
  obtain ⟨its, r, ⟨⟨cls, dd, data, sl⟩, ho, hc, n, hd⟩, hs⟩ := I.tuple hT
  simp only at hc hd
  subst hc hd
  have hle : its.length = xs.length := r.length.symm
  have hn : its ≠ [] := fun e => hne (by
    rw [e] at hle
    exact List.eq_nil_of_length_eq_zero hle.symm)
  have hi : its.toArray.isEmpty = false := by
    cases its with
    | nil => exact absurd rfl hn
    | cons a b => rfl
  have hsz0 : its.toArray.size = xs.length := by rw [List.size_toArray, hle]
  have hm : ((its.toArray.size : Nat) : Int) * k ≤ 1000000 := by
    rw [hsz0]
    have a1 : ((xs.length : Nat) : Int) * k ≤ 100 * k := Int.mul_le_mul_of_nonneg_right (by omega) (by omega)
    omega
  have flen : (List.replicate k.toNat its).flatten.length ≤ sizeLine := by
    rw [PyProof.Rows.lm_len_rep_flat, hle, sizeLine_eq]
    have a1 : k.toNat * xs.length ≤ 10000 * 100 := Nat.mul_le_mul (by omega) hz
    omega
  have c0 : (decide (k < -(2 ^ 63)) || decide (k ≥ 2 ^ 63)) = false := by
    rw [decide_eq_false (by omega), decide_eq_false (by omega)] <;> rfl
  have c1 : (its.toArray.isEmpty || k == 1) = false := by
    rw [hi, Bool.false_or]
    exact beq_eq_false_iff_ne.mpr (by omega)
  have c2 : (decide (k ≤ 0) || its.toArray.isEmpty) = false := by
    rw [hi, Bool.or_false]
    exact decide_eq_false (by omega)
  have c4 : Builtin.Tuple.tupleTooMany (((its.toArray.size : Nat) : Int) * k) = false := by
    unfold Builtin.Tuple.tupleTooMany
    rw [sizeLine_eq]
    exact decide_eq_false (by omega)
  refine wpAny_binaryOp_repeat_ref (T := "tuple") (U := "int") (by decide) ⟨_, ho, rfl⟩ (fun s' => typeIs_int s' k t) noFill_tuple_mul PySem.F.fills_int_mul PySem.F.slot_int_rmul repeat_tuple PySem.F.slot_int_index.lookup
    (call_meets PySem.F.slot_int_rmul (typeIs_int s k t) PySem.F.entry_int_rmul (PySem.F.args_int_rmul_2 _ _) (int_rmul_tuple k t l its.toArray n dd sl)
      ⟨ho, rfl, ⟨_, ho, rfl⟩, call_meets PySem.F.slot_tuple_mul ⟨_, ho, rfl⟩ PySem.F.entry_tuple_mul (PySem.F.args_tuple_mul_2 _ _) (tuple_mulW l its.toArray n dd sl k t c0 c1 c2 (by omega) c4 (by rw [size_rep, List.size_toArray]; exact flen)) ⟨ho, ?_⟩⟩)
  rw [size_rep]
  refine ⟨.ref s.heap.objs.size, _, I.laid (t' := s.toks) (o := .tup (List.replicate k.toNat xs).flatten) (fun b ob q => Heap.get?_push_of_some _ q) (Nat.le_refl _) ?_, rfl, q _ (I.hok.fresh (Nat.le_refl _))⟩
  exact ⟨by rw [PyProof.Rows.lm_len_rep_flat, sizeLine_eq]; have a1 : k.toNat * xs.length ≤ 10000 * 100 := Nat.mul_le_mul (by omega) hz; omega, _, r.rep k.toNat, IsTup.new _ _⟩
theorem op_repTA : OpR X (binaryOp .Mult) (fun x y H Q => ∃ l k xs, x = .ref l ∧ y = .int k ∧ SqT X.K H l xs ∧ xs ≠ [] ∧ 0 ≤ k ∧ k ≤ 10000 ∧ xs.length ≤ 100 ∧ (k = 1 → Q (.ref l) H) ∧ (k ≠ 1 → ∀ p, H p = none → Q (.ref p) (upd H p (.tup (List.replicate k.toNat xs).flatten)))) := by
  intro pins s σ H x y v u Q I rx ry h
  obtain ⟨l, k, xs, rfl, rfl, hT, hne, h1, h2, hz, q1, q⟩ := h
  by_cases h2k : 2 ≤ k
  · exact op_repTB pins s σ H _ _ v u Q I rx ry ⟨l, k, xs, rfl, rfl, hT, hne, h2k, h2, hz, q (by omega)⟩
  cases rx
  obtain ⟨t, rfl⟩ := ry
  obtain ⟨its, r, ⟨⟨cls, dd, data, sl⟩, ho, hc, n, hd⟩, hs⟩ := I.tuple hT
  simp only at hc hd
  subst hc hd
  have hle : its.length = xs.length := r.length.symm
  have hn : its ≠ [] := fun e => hne (by
    rw [e] at hle
    exact List.eq_nil_of_length_eq_zero hle.symm)
  have hi : its.toArray.isEmpty = false := by
    cases its with
    | nil => exact absurd rfl hn
    | cons a b => rfl
  have c0 : (decide (k < -(2 ^ 63)) || decide (k ≥ 2 ^ 63)) = false := by
    rw [decide_eq_false (by omega), decide_eq_false (by omega)] <;> rfl
  by_cases h1k : k = 1
  · refine wpAny_binaryOp_repeat_ref (T := "tuple") (U := "int") (by decide) ⟨_, ho, rfl⟩ (fun s' => typeIs_int s' k t) noFill_tuple_mul PySem.F.fills_int_mul PySem.F.slot_int_rmul repeat_tuple PySem.F.slot_int_index.lookup
      (call_meets PySem.F.slot_int_rmul (typeIs_int s k t) PySem.F.entry_int_rmul (PySem.F.args_int_rmul_2 _ _) (int_rmul_tuple k t l its.toArray n dd sl)
        ⟨ho, rfl, ⟨_, ho, rfl⟩, call_meets PySem.F.slot_tuple_mul ⟨_, ho, rfl⟩ PySem.F.entry_tuple_mul (PySem.F.args_tuple_mul_2 _ _) (tuple_mulW1 l its.toArray n dd sl k t c0 (by rw [h1k]; simp)) ⟨ho, ?_⟩⟩)
    exact ⟨.ref l, H, I, rfl, q1 h1k⟩
  · have h0 : k = 0 := by omega
    subst h0
    have c1 : (its.toArray.isEmpty || (0 : Int) == 1) = false := by rw [hi]; rfl
    refine wpAny_binaryOp_repeat_ref (T := "tuple") (U := "int") (by decide) ⟨_, ho, rfl⟩ (fun s' => typeIs_int s' 0 t) noFill_tuple_mul PySem.F.fills_int_mul PySem.F.slot_int_rmul repeat_tuple PySem.F.slot_int_index.lookup
      (call_meets PySem.F.slot_int_rmul (typeIs_int s 0 t) PySem.F.entry_int_rmul (PySem.F.args_int_rmul_2 _ _) (int_rmul_tuple 0 t l its.toArray n dd sl)
        ⟨ho, rfl, ⟨_, ho, rfl⟩, call_meets PySem.F.slot_tuple_mul ⟨_, ho, rfl⟩ PySem.F.entry_tuple_mul (PySem.F.args_tuple_mul_2 _ _) (tuple_mulW0 l its.toArray n dd sl 0 t c0 c1 (by simp)) ⟨ho, ?_⟩⟩)
    refine ⟨.ref s.heap.objs.size, _, I.laid (t' := s.toks) (o := .tup []) (fun b ob q => Heap.get?_push_of_some _ q) (Nat.le_refl _) ?_, rfl, q (by decide) _ (I.hok.fresh (Nat.le_refl _))⟩
    exact ⟨Nat.zero_le _, [], .nil, IsTup.new _ _⟩
theorem repS_1 (x : Str) : repS x 1 = x := by
  show Str.mk (#[] ++ x.cps) = x
  rw [Array.empty_append]
theorem repS_fold (k : Nat) (a b : Array Nat) (h : b = #[]) : (List.replicate k b).foldl (· ++ ·) a = a := by
  subst h
  induction k with
  | zero => rfl
  | succ k ih => rw [List.replicate_succ, List.foldl_cons, Array.append_empty, ih]
theorem repS_e (x : Str) (h : x.length = 0) (k : Nat) : repS x k = x := by
  have e : x.cps = #[] := Array.eq_empty_of_size_eq_zero h
  show Str.mk ((List.replicate k x.cps).foldl (· ++ ·) #[]) = x
  rw [repS_fold _ _ _ e]
  cases x
  exact congrArg _ e.symm
theorem repS_size (x : Array Nat) : ∀ (k : Nat) (a : Array Nat), ((List.replicate k x).foldl (· ++ ·) a).size = a.size + k * x.size
  | 0, a => by simp
  | k + 1, a => by rw [List.replicate_succ, List.foldl_cons, repS_size x k, Array.size_append, Nat.succ_mul]; omega
theorem repS_len (x : Str) (k : Nat) : (repS x k).length = k * x.length := by
  show ((List.replicate k x.cps).foldl (· ++ ·) #[]).size = k * x.cps.size
  rw [repS_size]
  simp
theorem op_mul_str : OpR X (binaryOp .Mult) (fun a b H Q => ∃ x k, a = .str x ∧ b = .int k ∧ 0 ≤ k ∧ k ≤ 1000 ∧ x.length ≤ 1000 ∧ Q (.str (repS x k.toNat)) H) := by
  intro pins s σ H a b v u Q I ra rb ⟨x, k, ea, eb, h0, h1, hl, q⟩
  subst ea eb
  obtain ⟨t, rfl⟩ := ra
  obtain ⟨t2, rfl⟩ := rb
  have hml : x.length * k.toNat ≤ 1000 * 1000 := Nat.mul_le_mul hl (by omega)
  refine PySem.P.mul_str (by rw [decide_eq_false (by omega), decide_eq_false (by omega)]; rfl) (fun _ _ => ?_) (fun _ _ => ?_) ?_
  · have : (2 ^ 63 - 1) / k ≥ (2 ^ 63 - 1) / 1000 := by
      by_cases hk : k = 0
      · omega
      · exact (Int.le_ediv_iff_mul_le (by omega)).mpr (by omega)
    omega
  · show decide _ = false
    rw [sizeLine_eq]
    exact decide_eq_false (by omega)
  · by_cases c : k < 1
    · rw [if_pos c]
      have : k = 0 := by omega
      subst this
      exact ⟨by decide, .str (repS x 0), H, I.kept (t' := s.toks + 1) (fun _ _ z => z), ⟨_, rfl⟩, q⟩
    · rw [if_neg c]
      split
      · rename_i hc
        have : repS x k.toNat = x := by
          rw [Bool.or_eq_true] at hc
          rcases hc with hc | hc
          · have : k = 1 := by simpa using hc
            subst this
            exact repS_1 x
          · exact repS_e x (by simpa using hc) _
        rw [this] at q
        exact ⟨.str x, H, I, ⟨_, rfl⟩, q⟩
      · refine ⟨?_, .str (repS x k.toNat), H, I.kept (t' := s.toks + 1) (fun _ _ z => z), ⟨_, rfl⟩, q⟩
        show (repS x k.toNat).length ≤ sizeLine
        rw [repS_len, sizeLine_eq, Nat.mul_comm]
        omega
theorem od_mul : OpD X (binaryOp .Mult) mulD := opD_of (by
  intro pins s σ H x y v u Q I rx ry ⟨F, a, b, m, l, va, vb, e, w⟩
  cases a with
  | int i =>
    obtain rfl := va.int
    cases b with
    | int j =>
      obtain rfl := vb.int
      have e : (if mulOk i j = true then some (M.d (.int (i * j))) else none) = some m := e
      split at e
      · rename_i hz; cases e; exact op_mul pins s σ H _ _ v u Q I rx ry ⟨i, j, rfl, rfl, mulOk_c hz, w.int⟩
      · cases e
    | _ => cases e
  | lst i =>
    obtain ⟨a1, vs, rfl, h1, r1⟩ := va.list l
    cases b with
    | int k =>
      obtain rfl := vb.int
      have e : (if (-(2 ^ 63) ≤ k ∧ k < 2 ^ 63) ∧ i.length * k.toNat ≤ line then some (M.lst (List.replicate k.toNat i).flatten) else none) = some m := e
      split at e
      · rename_i hz
        cases e
        exact op_repR pins s σ H _ _ v u Q I rx ry ⟨a1, k, vs, rfl, rfl, h1, hz.1.1, hz.1.2, by rw [r1.len, ← line_eq]; exact hz.2, fun p hp => w.l _ p _ rfl hp (r1.rep _)⟩
      · cases e
    | _ => cases e
  | tup i =>
    cases b with
    | int k =>
      obtain rfl := vb.int
      have e : (if 0 ≤ k ∧ k ≤ 10000 ∧ i ≠ [] ∧ i.length ≤ 100 then some (M.d (.tup (List.replicate k.toNat i).flatten)) else none) = some m := e
      split at e
      · rename_i hz
        cases e
        have hne := hz.2.2.1
        obtain ⟨a1, vs, ev, h1, r1⟩ := va.tuple l
        subst ev
        refine op_repTA pins s σ H _ _ v u Q I rx ry ⟨a1, k, vs, rfl, rfl, h1, ?_, hz.1, hz.2.1, by rw [r1.len]; exact hz.2.2.2, fun hk => ?_, fun _ p hp => w.t _ p _ rfl hp (r1.rep _)⟩
        · intro z
          subst z
          cases r1
          exact hne rfl
        · subst hk
          cases va with
          | fz h => exact w.d _ _ rfl (by simpa using h)
      · cases e
    | _ => cases e
  | str i =>
    cases b with
    | int k =>
      obtain rfl := vb.int
      obtain rfl := va.str
      have e : (if 0 ≤ k ∧ k ≤ 1000 ∧ i.length ≤ 1000 then some (M.d (.str (repS i k.toNat))) else none) = some m := e
      split at e
      · rename_i hz
        cases e
        exact op_mul_str pins s σ H _ _ v u Q I rx ry ⟨i, k, rfl, rfl, hz.1, hz.2.1, hz.2.2, w.str⟩
      · cases e
    | _ => cases e
  | _ => cases e)
theorem od_fdiv : OpD X (binaryOp .FloorDiv) fdivD := opD_of (by
  intro pins s σ H x y v u Q I rx ry ⟨F, a, b, m, l, va, vb, e, w⟩
  cases a with
  | int i =>
    obtain rfl := va.int
    cases b with
    | int j =>
      obtain rfl := vb.int
      have e : (if divOk j = true then some (M.d (.int (i.fdiv j))) else none) = some m := e
      split at e
      · rename_i hz; cases e; exact op_fdivA pins s σ H _ _ v u Q I rx ry ⟨i, j, rfl, rfl, hz, w.int⟩
      · cases e
    | _ => cases e
  | _ => cases e)
theorem od_mod : OpD X (binaryOp .Mod) modD := opD_of (by
  intro pins s σ H x y v u Q I rx ry ⟨F, a, b, m, l, va, vb, e, w⟩
  cases a with
  | int i =>
    obtain rfl := va.int
    cases b with
    | int j =>
      obtain rfl := vb.int
      have e : (if j ≠ 0 then some (M.d (.int (i.fmod j))) else none) = some m := e
      split at e
      · rename_i hz; cases e; exact op_modN pins s σ H _ _ v u Q I rx ry ⟨i, j, rfl, rfl, hz, w.int⟩
      · cases e
    | _ => cases e
  | _ => cases e)
theorem od_pow : OpD X (binaryOp .Pow) powD := opD_of (by
  intro pins s σ H x y v u Q I rx ry ⟨F, a, b, m, l, va, vb, e, w⟩
  cases a with
  | int i =>
    obtain rfl := va.int
    cases b with
    | int j =>
      obtain rfl := vb.int
      have e : (if 0 ≤ j ∧ j ≤ 1000000 ∧ i.natAbs < 2 ^ 64 then some (M.d (.int (i ^ j.toNat))) else none) = some m := e
      split at e
      · rename_i hz; cases e; exact op_pow pins s σ H _ _ v u Q I rx ry ⟨i, j, rfl, rfl, hz, w.int⟩
      · cases e
    | _ => cases e
  | _ => cases e)
/-- -a -/
noncomputable def mNeg (f : FE) : FM := fun S => (f S).bind fun o S => match o.get S with
  | some (.int i) => .ok (.d (.int (-i))) S
  | _ => .no
theorem dm_neg {e : Expr} {pos : Pos} {f : FE} (h : DE X f e) : DM X (mNeg f) (.UnaryOp .USub e pos) := PE.imp (pe_un un_neg h) fun σ H Q ⟨F, O, S, m, S', r, hf, k⟩ => by
  obtain ⟨o, S1, h1, h2⟩ := R.bind_ok hf
  refine ⟨F, O, S, o, S1, r, h1, fun v H1 F1 O1 st1 r1 ro => ?_⟩
  cases eg : o.get S1 with
  | none => rw [eg] at h2; cases h2
  | some d =>
    rw [eg] at h2
    cases d with
    | int i =>
      cases h2
      obtain rfl := (r1.view ro eg).int
      exact ⟨i, rfl, k _ H1 F1 O1 st1 r1 (.int _)⟩
    | _ => cases h2


end
/-! ### comparisons -/
mutual
noncomputable def D.py : D → PyData
  | .non => .none
  | .bl b => .bool b
  | .int i => .int i
  | .str x => .str x
  | .tup xs => .tuple (D.pys xs)
  | .lst xs => .list (D.pys xs)
  | _ => .none
noncomputable def D.pys : List D → List PyData
  | [] => []
  | x :: xs => D.py x :: D.pys xs
end
mutual
noncomputable def D.eqb : D → D → Bool
  | .non, y => match y with
    | .non => true
    | _ => false
  | .bl a, y => match y with
    | .bl b => a == b
    | .int j => (if a then 1 else 0) == j
    | _ => false
  | .int i, y => match y with
    | .bl b => i == (if b then 1 else 0)
    | .int j => i == j
    | _ => false
  | .str x, y => match y with
    | .str z => x == z
    | _ => false
  | .lst xs, y => match y with
    | .lst ys => D.eqbs xs ys
    | _ => false
  | .tup xs, y => match y with
    | .tup ys => D.eqbs xs ys
    | _ => false
  | _, _ => false
noncomputable def D.eqbs : List D → List D → Bool
  | [], ys => match ys with
    | [] => true
    | _ :: _ => false
  | x :: xs, ys => match ys with
    | [] => false
    | y :: ys => D.eqb x y && D.eqbs xs ys
end
mutual
/-- data that == goes through -/
noncomputable def D.pl : D → Bool
  | .non => true
  | .bl _ => true
  | .int _ => true
  | .str _ => true
  | .tup xs => D.pls xs
  | .lst xs => D.pls xs
  | _ => false
noncomputable def D.pls : List D → Bool
  | [] => true
  | x :: xs => D.pl x && D.pls xs
end
mutual
noncomputable def D.dep : D → Nat
  | .tup xs => D.deps xs + 1
  | .lst xs => D.deps xs + 1
  | _ => 0
noncomputable def D.deps : List D → Nat
  | [] => 0
  | x :: xs => max (D.dep x) (D.deps xs)
end
mutual
theorem D.py_dep : ∀ d : D, d.pl = true → d.py.depth = d.dep
  | .non, _ => rfl
  | .bl _, _ => rfl
  | .int _, _ => rfl
  | .str _, _ => rfl
  | .tup xs, h => by
    show PyData.depthAll (D.pys xs) + 1 = D.deps xs + 1
    rw [D.pys_dep xs h]
  | .lst xs, h => by
    show PyData.depthAll (D.pys xs) + 1 = D.deps xs + 1
    rw [D.pys_dep xs h]
theorem D.pys_dep : ∀ ds : List D, D.pls ds = true → PyData.depthAll (D.pys ds) = D.deps ds
  | [], _ => rfl
  | x :: xs, h => by
    have h : (D.pl x && D.pls xs) = true := h
    rw [Bool.and_eq_true] at h
    show max (D.py x).depth (PyData.depthAll (D.pys xs)) = max (D.dep x) (D.deps xs)
    rw [D.py_dep x h.1, D.pys_dep xs h.2]
end
mutual
theorem D.py_plain : ∀ d : D, d.pl = true → d.py.plain = true
  | .non, _ => rfl
  | .bl _, _ => rfl
  | .int _, _ => rfl
  | .str _, _ => rfl
  | .tup xs, h => D.pys_plain xs h
  | .lst xs, h => D.pys_plain xs h
theorem D.pys_plain : ∀ ds : List D, D.pls ds = true → PyData.plainAll (D.pys ds) = true
  | [], _ => rfl
  | x :: xs, h => by
    have h : (D.pl x && D.pls xs) = true := h
    rw [Bool.and_eq_true] at h
    show ((D.py x).plain && PyData.plainAll (D.pys xs)) = true
    rw [D.py_plain x h.1, D.pys_plain xs h.2]
    rfl
end
mutual
theorem D.py_eqv : ∀ a b : D, a.pl = true → b.pl = true → PyData.eqv a.py b.py = D.eqb a b
  | .non, b, _, hb => by cases b <;> first | rfl | cases hb
  | .bl _, b, _, hb => by cases b <;> first | rfl | cases hb
  | .int _, b, _, hb => by cases b <;> first | rfl | cases hb
  | .str _, b, _, hb => by cases b <;> first | rfl | cases hb
  | .tup xs, b, ha, hb => by
    cases b with
    | tup ys => exact D.pys_eqv xs ys ha hb
    | _ => first | rfl | cases hb
  | .lst xs, b, ha, hb => by
    cases b with
    | lst ys => exact D.pys_eqv xs ys ha hb
    | _ => first | rfl | cases hb
theorem D.pys_eqv : ∀ a b : List D, D.pls a = true → D.pls b = true → PyData.eqvAll (D.pys a) (D.pys b) = D.eqbs a b
  | [], [], _, _ => rfl
  | [], _ :: _, _, _ => rfl
  | _ :: _, [], _, _ => rfl
  | x :: xs, y :: ys, ha, hb => by
    have ha : (D.pl x && D.pls xs) = true := ha
    have hb : (D.pl y && D.pls ys) = true := hb
    rw [Bool.and_eq_true] at ha hb
    show (PyData.eqv (D.py x) (D.py y) && PyData.eqvAll (D.pys xs) (D.pys ys)) = (D.eqb x y && D.eqbs xs ys)
    rw [D.py_eqv x y ha.1 hb.1, D.pys_eqv xs ys ha.2 hb.2]
end
mutual
theorem RepD.dpA {K : KG} {H F : Hp} (l : Le F H) : ∀ (d : D) (v : V), d.pl = true → RepD K F v d → Dp K H v d.py
  | .non, _, _, r => by cases r; exact .non
  | .bl _, _, _, r => by cases r; exact .bl _
  | .int _, _, _, r => by cases r; exact .int _
  | .str _, _, _, r => by cases r; exact .str _
  | .tup xs, _, h, r => by
    cases r with
    | tup hs r => exact .tup (l.st hs.sq) (RepD.dpAs l xs _ h r)
  | .lst xs, _, h, r => by
    cases r with
    | lst hs r => exact .lst (.inl (l.rd hs)) (RepD.dpAs l xs _ h r)
  | .ty _, _, h, _ => by cases h
  | .scr _, _, h, _ => by cases h
  | .dk _, _, h, _ => by cases h
  | .dt _, _, h, _ => by cases h
  | .obj _ _, _, h, _ => by cases h
theorem RepD.dpAs {K : KG} {H F : Hp} (l : Le F H) : ∀ (d : List D) (v : List V), D.pls d = true → RepDs K F v d → DpAll K H v (D.pys d)
  | [], _, _, r => by cases r; exact .nil
  | x :: xs, _, h, r => by
    cases r with
    | cons a r =>
      have h : (D.pl x && D.pls xs) = true := h
      rw [Bool.and_eq_true] at h
      exact .cons (RepD.dpA l x _ h.1 a) (RepD.dpAs l xs _ h.2 r)
end
theorem RepD.dp {K : KG} {H F : Hp} (l : Le F H) : ∀ {d : D} {v : V}, d.pl = true → RepD K F v d → Dp K H v d.py := fun {d v} => RepD.dpA l d v
theorem RepDs.dps {K : KG} {H F : Hp} (l : Le F H) : ∀ {d : List D} {v : List V}, D.pls d = true → RepDs K F v d → DpAll K H v (D.pys d) := fun {d v} => RepD.dpAs l d v
theorem View.dp {K : KG} {H F : Hp} {v : V} {d : D} (l : Le F H) (h : d.pl = true) (w : View K H F v d) : Dp K H v d.py := by
  cases w with
  | fz r => exact r.dp l h
  | lst hh r => exact .lst (.inl (.inl hh)) (r.dps l h)
  | dk _ _ _ => cases h
  | dt _ _ _ => cases h
noncomputable def eqOk (a b : D) : Bool := a.pl && b.pl && decide (min a.dep b.dep ≤ 190)
noncomputable def eqD (a b : D) : Option M := if eqOk a b = true then some (.d (.bl (D.eqb a b))) else none
noncomputable def neD2 : D → D → Option M
  | .lst (_ :: _), .lst [] => some (.d (.bl true))
  | _, _ => none
noncomputable def neD (a b : D) : Option M := if eqOk a b = true then some (.d (.bl (!D.eqb a b))) else neD2 a b
theorem eqOk_of {a b : D} (h : eqOk a b = true) : a.pl = true ∧ b.pl = true ∧ min a.dep b.dep ≤ 190 := by
  unfold eqOk at h
  rw [Bool.and_eq_true, Bool.and_eq_true] at h
  exact ⟨h.1.1, h.1.2, of_decide_eq_true h.2⟩
noncomputable def strIn (x y : Str) : Bool := !(Builtin.Str.occurrences y x 0 y.length 1).isEmpty
noncomputable def inOk (a : D) (xs : List D) : Bool := a.pl && D.pls xs && decide (min a.dep (D.deps xs) ≤ 190)
noncomputable def inD : D → D → Option M
  | a, .lst xs => if inOk a xs = true then some (.d (.bl (xs.any fun y => D.eqb y a))) else none
  | a, .tup xs => if inOk a xs = true then some (.d (.bl (xs.any fun y => D.eqb y a))) else none
  | .str x, .str y => some (.d (.bl (strIn x y)))
  | _, _ => none
noncomputable def ltD : D → D → Option M
  | .int i, .int j => some (.d (.bl (decide (i < j))))
  | .str x, .str y => some (.d (.bl (decide (x.cps.toList < y.cps.toList))))
  | _, _ => none
noncomputable def gtD : D → D → Option M
  | .int i, .int j => some (.d (.bl (decide (j < i))))
  | _, _ => none
noncomputable def geD : D → D → Option M
  | .int i, .int j => some (.d (.bl (decide (j ≤ i))))
  | _, _ => none
section
variable {X : Cx}
theorem od_eq (hu : X.A.units + 192 < cLine) : OpD X (compareOp .Eq) eqD := opD_of (by
  intro pins s σ H x y v u Q I rx ry ⟨F, a, b, m, l, va, vb, e, w⟩
  unfold eqD at e
  split at e
  · rename_i hk
    obtain ⟨h1, h2, h3⟩ := eqOk_of hk
    cases e
    obtain ⟨as, r1⟩ := Dp.reads I _ x v (va.dp l h1) rx
    obtain ⟨bs, r2⟩ := Dp.reads I _ y u (vb.dp l h2) ry
    refine SeqAt.eq_plain r1 r2 (D.py_plain a h1) (D.py_plain b h2) (by rw [D.py_dep a h1, D.py_dep b h2]; omega) ⟨.bl _, H, I, rfl, ?_⟩
    rw [D.py_eqv a b h1 h2]
    exact w.bl
  · cases e)
theorem od_ne (hu : X.A.units + 192 < cLine) : OpD X (compareOp .NotEq) neD := opD_of (by
  intro pins s σ H x y v u Q I rx ry ⟨F, a, b, m, l, va, vb, e, w⟩
  unfold neD at e
  split at e
  · rename_i hk
    obtain ⟨h1, h2, h3⟩ := eqOk_of hk
    cases e
    obtain ⟨as, r1⟩ := Dp.reads I _ x v (va.dp l h1) rx
    obtain ⟨bs, r2⟩ := Dp.reads I _ y u (vb.dp l h2) ry
    refine SeqAt.ne_plain r1 r2 (D.py_plain a h1) (D.py_plain b h2) (by rw [D.py_dep a h1, D.py_dep b h2]; omega) ⟨.bl _, H, I, rfl, ?_⟩
    rw [D.py_eqv a b h1 h2]
    exact w.bl
  · have key : ∃ z zs, a = .lst (z :: zs) ∧ b = .lst [] ∧ m = .d (.bl true) := by
      unfold neD2 at e
      split at e
      · cases e; exact ⟨_, _, rfl, rfl, rfl⟩
      · cases e
    obtain ⟨z, zs, rfl, rfl, rfl⟩ := key
    obtain ⟨a1, vs, rfl, h1, r1⟩ := va.list l
    obtain ⟨b1, us, rfl, h2, r2⟩ := vb.list l
    cases rx
    cases ry
    obtain ⟨_, its, n, q1, hl, g1⟩ := Inv.rdl I h1
    obtain ⟨_, its2, n2, q2, hl2, g2⟩ := Inv.rdl I h2
    have e1 : its.length = zs.length + 1 := by rw [← hl, r1.len]; rfl
    have e2 : its2.length = 0 := by rw [← hl2, r2.len]; rfl
    show wpAny (model X.prog X.w) X.A (richCompare .NotEq (.ref a1) (.ref b1)) _ _ s
    exact PySem.SeqAt.RcNeAt.lists_lengths ⟨_, g1, rfl, n, rfl⟩ ⟨_, g2, rfl, n2, rfl⟩ (by rw [List.size_toArray, List.size_toArray, e1, e2]; simp) (by omega) X.prog X.w _ _ ⟨.bl true, H, I, rfl, w.bl⟩)
theorem pys_any {a : D} (ha : a.pl = true) : ∀ {xs : List D}, D.pls xs = true → ((D.pys xs).any fun y => PyData.eqv y a.py) = xs.any fun y => D.eqb y a
  | [], _ => rfl
  | x :: xs, h => by
    have h : (D.pl x && D.pls xs) = true := h
    rw [Bool.and_eq_true] at h
    show (PyData.eqv x.py a.py || _) = (D.eqb x a || _)
    rw [D.py_eqv x a h.1 ha, pys_any ha h.2]
theorem od_in (hu : X.A.units + 192 < cLine) : OpD X (compareOp .In) inD := opD_of (by
  intro pins s σ H x y v u Q I rx ry ⟨F, a, b, m, l, va, vb, e, w⟩
  have seq : ∀ xs : List D, (b = .lst xs ∨ b = .tup xs) → inOk a xs = true → m = .d (.bl (xs.any fun y => D.eqb y a)) → wpAny (model X.prog X.w) X.A (compareOp .In v u) (EP X pins σ Q) X.xe s := fun xs hb hk em => by
    unfold inOk at hk
    rw [Bool.and_eq_true, Bool.and_eq_true] at hk
    have h3 := of_decide_eq_true hk.2
    have hbp : b.pl = true := by rcases hb with rfl | rfl <;> exact hk.1.2
    obtain ⟨as, r1⟩ := Dp.reads I _ x v (va.dp l hk.1.1) rx
    obtain ⟨bs, r2⟩ := Dp.reads I _ y u (vb.dp l hbp) ry
    have hd : X.A.units + 1 + min (PyData.depthAll (D.pys xs)) a.py.depth < cLine := by rw [D.py_dep a hk.1.1, D.pys_dep xs hk.1.2]; omega
    have fin : EP X pins σ Q (.bool ((D.pys xs).any fun y => PyData.eqv y a.py)) s := ⟨.bl _, H, I, rfl, by rw [pys_any hk.1.1 hk.1.2]; rw [em] at w; exact w.bl⟩
    rcases hb with rfl | rfl
    · exact SeqAt.in_list_data r2 r1 (D.pys_plain xs hk.1.2) (D.py_plain a hk.1.1) hd fin
    · exact SeqAt.in_tuple_data r2 r1 (D.pys_plain xs hk.1.2) (D.py_plain a hk.1.1) hd fin
  cases b with
  | lst xs =>
    have e : (if inOk a xs = true then some (M.d (.bl (xs.any fun y => D.eqb y a))) else none) = some m := by cases a <;> exact e
    split at e
    · rename_i hk; cases e; exact seq xs (.inl rfl) hk rfl
    · cases e
  | tup xs =>
    have e : (if inOk a xs = true then some (M.d (.bl (xs.any fun y => D.eqb y a))) else none) = some m := by cases a <;> exact e
    split at e
    · rename_i hk; cases e; exact seq xs (.inr rfl) hk rfl
    · cases e
  | str z =>
    cases a with
    | str i => obtain rfl := va.str; obtain rfl := vb.str; cases e; exact op_in_str pins s σ H _ _ v u Q I rx ry ⟨i, z, rfl, rfl, w.bl⟩
    | _ => cases e
  | _ => cases a <;> cases e)
theorem od_lt : OpD X (compareOp .Lt) ltD := opD_of (by
  intro pins s σ H x y v u Q I rx ry ⟨F, a, b, m, l, va, vb, e, w⟩
  cases a with
  | int i =>
    cases b with
    | int j => obtain rfl := va.int; obtain rfl := vb.int; cases e; exact op_lt pins s σ H _ _ v u Q I rx ry ⟨i, j, rfl, rfl, w.bl⟩
    | _ => cases e
  | str i =>
    cases b with
    | str j => obtain rfl := va.str; obtain rfl := vb.str; cases e; exact op_lt_str pins s σ H _ _ v u Q I rx ry ⟨i, j, rfl, rfl, w.bl⟩
    | _ => cases e
  | _ => cases e)
theorem od_gt : OpD X (compareOp .Gt) gtD := opD_of (by
  intro pins s σ H x y v u Q I rx ry ⟨F, a, b, m, l, va, vb, e, w⟩
  cases a with
  | int i =>
    cases b with
    | int j => obtain rfl := va.int; obtain rfl := vb.int; cases e; exact op_gt pins s σ H _ _ v u Q I rx ry ⟨i, j, rfl, rfl, w.bl⟩
    | _ => cases e
  | _ => cases e)
theorem od_ge : OpD X (compareOp .GtE) geD := opD_of (by
  intro pins s σ H x y v u Q I rx ry ⟨F, a, b, m, l, va, vb, e, w⟩
  cases a with
  | int i =>
    cases b with
    | int j => obtain rfl := va.int; obtain rfl := vb.int; cases e; exact op_ge pins s σ H _ _ v u Q I rx ry ⟨i, j, rfl, rfl, w.bl⟩
    | _ => cases e
  | _ => cases e)
end

/-! ### x[i] -/
noncomputable def ixD : D → D → Option M
  | .lst xs, .int i => (atI xs i).map .d
  | .tup xs, .int i => (atI xs i).map .d
  | .str z, .int i => if z.length ≤ line then (atI z.cps.toList i).map fun c => .d (.str ⟨#[c]⟩) else none
  | _, _ => none
theorem RepDs.ati {K : KG} {F : Hp} {v : List V} {d : List D} {i : Int} {x : D} (h : RepDs K F v d) (e : atI d i = some x) : ∃ u, atI v i = some u ∧ RepD K F u x := by
  unfold atI at e ⊢
  rw [h.len]
  cases hj : ixN d.length i with
  | none => rw [hj] at e; cases e
  | some j =>
    rw [hj] at e
    exact h.get e
section
variable {X : Cx} {e a b : Expr} {pos : Pos}
theorem ix_all : IxR X (semR (kg X) ixD) := by
  intro value slice pins s σ H x y v u Q I rx ry ⟨F, a, b, m, l, va, vb, e, w⟩ hs
  cases b with
  | int i =>
    obtain rfl := vb.int
    cases a with
    | lst xs =>
      obtain ⟨p, vs, rfl, h1, r1⟩ := va.list l
      have e : (atI xs i).map M.d = some m := e
      cases ea : atI xs i with
      | none => rw [ea] at e; cases e
      | some d =>
        rw [ea] at e
        cases e
        obtain ⟨z, hz, rz⟩ := r1.ati ea
        exact ix_list value slice pins s σ H _ _ v u Q I rx ry ⟨p, vs, i, z, rfl, rfl, .inl h1, hz, w.d _ _ rfl rz⟩ hs
    | tup xs =>
      obtain ⟨p, vs, rfl, h1, r1⟩ := va.tuple l
      have e : (atI xs i).map M.d = some m := e
      cases ea : atI xs i with
      | none => rw [ea] at e; cases e
      | some d =>
        rw [ea] at e
        cases e
        obtain ⟨z, hz, rz⟩ := r1.ati ea
        exact ix_tup value slice pins s σ H _ _ v u Q I rx ry ⟨p, vs, i, z, rfl, rfl, h1, hz, w.d _ _ rfl rz⟩ hs
    | str z =>
      obtain rfl := va.str
      have e : (if z.length ≤ line then (atI z.cps.toList i).map fun c => M.d (.str ⟨#[c]⟩) else none) = some m := e
      split at e
      · rename_i hl
        cases ea : atI z.cps.toList i with
        | none => rw [ea] at e; cases e
        | some c =>
          rw [ea] at e
          cases e
          exact ix_str value slice pins s σ H _ _ v u Q I rx ry ⟨z, i, c, rfl, rfl, by rw [← line_eq]; exact hl, ea, w.str⟩ hs
      · cases e
    | _ => cases e
  | _ => cases a <;> cases e
theorem dm_ix {fa fb : FE} (ha : DE X fa a) (hb : DE X fb b) (hs : PlainIx b := by exact fun _ _ => rfl) : DM X (mBin ixD fa fb) (.Subscript a b pos) :=
  PE.imp (pe_ix ix_all ha hb hs) fun σ H Q h => bin_rd (fun H F v u x y m Q l vx vy e w => ⟨F, x, y, m, l, vx, vy, e, w⟩) h

/-! ### slices -/
noncomputable abbrev FP := SS → R (Option Int)
noncomputable def rdP (K : KG) (f : FP) : TO := fun σ H Q => ∃ F O S o S', Rp K H F O σ S ∧ f S = .ok o S' ∧ ∀ H' F' O', Stp H F O H' F' O' → Rp K H' F' O' σ S' → Q o H'
noncomputable abbrev DP (X : Cx) (f : FP) (e : Option Expr) : Prop := PO X e (rdP (kg X) f)
theorem PO.imp {X : Cx} {e : Option Expr} {t t' : TO} (h : PO X e t) (hm : ∀ σ H Q, t' σ H Q → t σ H Q) : PO X e t' := ⟨fun pins s σ H Q I q => h.run pins s σ H Q I (hm σ H Q q)⟩
noncomputable def pNo : FP := fun S => .ok none S
noncomputable def pIx (f : FE) : FP := fun S => (f S).bind fun o S => match o.get S with
  | some (.int i) => .ok (some i) S
  | _ => .no
theorem dp_no : DP X pNo none := PO.imp po_none fun σ H Q ⟨F, O, S, o, S', r, h, k⟩ => by
  cases h
  exact k H F O (Stp.refl _ _ _) r
theorem dp_ix {f : FE} (h : DE X f e) : DP X (pIx f) (some e) := PO.imp (po_some h) fun σ H Q ⟨F, O, S, o, S', r, hf, k⟩ => by
  obtain ⟨o1, S1, h1, h2⟩ := R.bind_ok hf
  refine ⟨F, O, S, o1, S1, r, h1, fun v H1 F1 O1 st1 r1 ro => ?_⟩
  cases eg : o1.get S1 with
  | none => rw [eg] at h2; cases h2
  | some d =>
    rw [eg] at h2
    cases d with
    | int i =>
      cases h2
      obtain rfl := (r1.view ro eg).int
      exact ⟨i, rfl, k H1 F1 O1 st1 r1⟩
    | _ => cases h2
noncomputable def cutD (xs : List D) (lo hi : Option Int) : List D := (xs.drop (HT.sIx xs.length 0 lo)).take (HT.sIx xs.length xs.length hi - HT.sIx xs.length 0 lo)
theorem RepDs.cut {K : KG} {F : Hp} {v : List V} {d : List D} (h : RepDs K F v d) (lo hi : Option Int) : RepDs K F (cutV v lo hi) (cutD d lo hi) := by
  unfold cutV cutD
  rw [h.len]
  exact (h.drop _).take _
noncomputable def sliceD (lo hi : Option Int) : D → Option M
  | .lst xs => some (.lst (cutD xs lo hi))
  | .scr xs => some (.lst (cutD xs lo hi))
  | .tup xs => some (.d (.tup (cutD xs lo hi)))
  | .str z => if z.length ≤ line then some (.d (.str (cutS z lo hi))) else none
  | _ => none
noncomputable def semSl (K : KG) : V → Option Int → Option Int → Hp → VK → Prop := fun v lo hi H Q => ∃ F x m, Le F H ∧ View K H F v x ∧ sliceD lo hi x = some m ∧ Wish K H F m Q
theorem cutD_whole {xs : List D} {lo hi : Option Int} (h : HT.sIx xs.length 0 lo = 0 ∧ HT.sIx xs.length xs.length hi = xs.length) : cutD xs lo hi = xs := by
  unfold cutD
  rw [h.1, h.2]
  simp
theorem sl_all : SlR X (semSl (kg X)) := by
  intro pins s σ H x v vl vu lo hi sl Q I rx hs pl pu ⟨F, d, m, l, vd, e, w⟩
  cases d with
  | lst xs =>
    obtain ⟨p, vs, rfl, h1, r1⟩ := vd.list l
    cases e
    exact sl_list pins s σ H _ v vl vu lo hi sl Q I rx hs pl pu ⟨p, vs, rfl, .inl h1, fun q hq => w.l _ q _ rfl hq (r1.cut lo hi)⟩
  | scr xs =>
    obtain ⟨p, vs, rfl, h1, r1⟩ := vd.scr l
    cases e
    exact sl_list pins s σ H _ v vl vu lo hi sl Q I rx hs pl pu ⟨p, vs, rfl, h1, fun q hq => w.l _ q _ rfl hq (r1.cut lo hi)⟩
  | tup xs =>
    obtain ⟨p, vs, ev, h1, r1⟩ := vd.tuple l
    subst ev
    cases e
    refine sl_tupA pins s σ H _ v vl vu lo hi sl Q I rx hs pl pu ⟨p, vs, rfl, h1, fun hw => ?_, fun _ q hq => w.t _ q _ rfl hq (r1.cut lo hi)⟩
    rw [r1.len] at hw
    cases vd with
    | fz h => exact w.d _ _ rfl (by rw [cutD_whole hw]; exact h)
  | str z =>
    obtain rfl := vd.str
    have e : (if z.length ≤ line then some (M.d (.str (cutS z lo hi))) else none) = some m := e
    split at e
    · rename_i hl
      cases e
      exact sl_str pins s σ H _ v vl vu lo hi sl Q I rx hs pl pu ⟨z, rfl, by rw [← line_eq]; exact hl, w.str⟩
    · cases e
  | _ => cases e
noncomputable def mSl (f : FE) (l h : FP) : FM := fun S => (f S).bind fun o S => (l S).bind fun lo S => (h S).bind fun hi S => match o.get S with
  | some x => (match sliceD lo hi x with
    | some m => .ok m S
    | none => .no)
  | none => .no
theorem dm_sl {f : FE} {l h : FP} {lo hi : Option Expr} {p2 : Pos} (he : DE X f e) (hl : DP X l lo) (hh : DP X h hi) : DM X (mSl f l h) (.Subscript e (.Slice lo hi none p2) pos) :=
  PE.imp (pe_slice sl_all he hl hh) fun σ H Q ⟨F, O, S, m, S', r, hf, k⟩ => by
    obtain ⟨o, S1, h1, h2⟩ := R.bind_ok hf
    obtain ⟨lo', S2, h3, h4⟩ := R.bind_ok h2
    obtain ⟨hi', S3, h5, h6⟩ := R.bind_ok h4
    refine ⟨F, O, S, o, S1, r, h1, fun v H1 F1 O1 st1 r1 ro => ⟨F1, O1, S1, lo', S2, r1, h3, fun H2 F2 O2 st2 r2 => ⟨F2, O2, S2, hi', S3, r2, h5, fun H3 F3 O3 st3 r3 => ?_⟩⟩⟩
    cases eg : o.get S3 with
    | none => rw [eg] at h6; cases h6
    | some x =>
      rw [eg] at h6
      dsimp only at h6
      cases es : sliceD lo' hi' x with
      | none => rw [es] at h6; cases h6
      | some m' =>
        rw [es] at h6
        cases h6
        exact ⟨F3, x, m, r3.bs.fh, r3.view (ro.mono (st2.trans st3).ff) eg, es, r3.wish fun w H4 F4 O4 st4 r4 rm => k w H4 F4 O4 (((st1.trans st2).trans st3).trans st4) r4 rm⟩

section
variable {prog : Program} {w : World} {A : Around} {E : Value → Shared → Prop} {s : Shared}
end
/-! ### a list of a slot is changed -/
theorem Rp.mut {K : KG} {H F : Hp} {O : OW} {σ : St} {S : SS} {j : Nat} {ds : List D} (r : Rp K H F O σ S) (e : S.at j = some (.lst ds)) :
    ∃ a vs, σ[j]? = some (some (.ref a)) ∧ H a = some (.lst vs) ∧ RepDs K F vs ds ∧ ∀ vs' ds', RepDs K F vs' ds' → Stp H F O (upd H a (.lst vs')) F O ∧ Rp K (upd H a (.lst vs')) F O σ (S.set j (some (.lst ds'))) := by
  obtain ⟨v, hv, a, vs, rfl, ho, hh, rd⟩ := r.sl j _ e
  have hF := (r.bs.fo a _ ho).1
  refine ⟨a, vs, hv, hh, rd, fun vs' ds' rd' => ⟨⟨Le.refl _, fun b u hb eb => ?_, fun b q hb => .inl ⟨q, hb⟩, fun b u hb => .inl hb, al_upd⟩, ⟨⟨fun b u hb => ?_, fun b q hb => ?_⟩, by rw [List.length_set]; exact r.len, fun i m hm => ?_⟩⟩⟩
  · rw [upd_ne (fun z => by subst z; rw [ho] at eb; cases eb)]; exact hb
  · rw [upd_ne (ne_of_none hb hF)]; exact r.bs.fh b u hb
  · obtain ⟨h1, h2⟩ := r.bs.fo b q hb
    obtain ⟨u, hu⟩ := h2
    exact ⟨h1, al_upd b u hu⟩
  · rcases SS.at_set hm with ⟨e1, e2⟩ | ⟨ne, hm⟩
    · subst e1
      cases e2
      exact ⟨_, hv, a, vs', rfl, ho, upd_same, rd'⟩
    · obtain ⟨w, hw, rw'⟩ := r.sl i m hm
      refine ⟨w, hw, rw'.stay (Le.refl _) fun b u _ e1 e2 => ⟨?_, e1⟩⟩
      rw [upd_ne (fun z => by subst z; rw [ho] at e1; cases e1; exact ne rfl)]
      exact e2
noncomputable def isL : Option M → Bool
  | some (.lst _) => true
  | some (.d (.lst _)) => true
  | _ => false
theorem Rp.isL {K : KG} {H F : Hp} {O : OW} {σ : St} {S : SS} {j : Nat} {v : V} (r : Rp K H F O σ S) (h : Ev.isL (S.at j) = true) (hv : σ[j]? = some (some v)) : tyV K "list" v H := by
  cases em : S.at j with
  | none => rw [em] at h; cases h
  | some m =>
    rw [em] at h
    obtain ⟨w, hw, rm⟩ := r.sl j m em
    rw [hv] at hw
    cases hw
    cases m with
    | lst xs =>
      obtain ⟨a, vs, rfl, _, hh, _⟩ := rm
      exact .inl ⟨rfl, vs, .inl (.inl hh)⟩
    | d x =>
      cases x with
      | lst xs =>
        cases (show RepD K F v (.lst xs) from rm) with
        | lst hs _ => exact .inl ⟨rfl, _, .inl (r.bs.fh.rd hs)⟩
      | _ => cases h
    | _ => cases h
noncomputable def isLq (j : Nat) : SS → R Unit := fun S => if isL (S.at j) = true then .ok () S else .no
theorem isLq_ok {j : Nat} {S S' : SS} {u : Unit} (h : isLq j S = .ok u S') : S' = S ∧ isL (S.at j) = true := by
  unfold isLq at h
  split at h
  · rename_i hl; cases h; exact ⟨rfl, hl⟩
  · cases h
theorem at_slot {K : KG} {H F : Hp} {O : OW} {σ : St} {S : SS} {j : Nat} (r : Rp K H F O σ S) (h : Ev.isL (S.at j) = true) : ∃ v, σ[j]? = some (some v) := by
  cases em : S.at j with
  | none => rw [em] at h; cases h
  | some m =>
    obtain ⟨w, hw, _⟩ := r.sl j m em
    exact ⟨w, hw⟩
/-- x[i] = e -/
noncomputable def putIx (j : Nat) (k : D) (x : D) (S : SS) : Option SS := match k, S.at j with
  | .int k, some (.lst xs) => (match ixN xs.length k with
    | some n => some (S.set j (some (.lst (xs.set n x))))
    | none => none)
  | _, _ => none
theorem putIx_ok {j : Nat} {k x : D} {S S' : SS} (h : putIx j k x S = some S') : ∃ i xs n, k = .int i ∧ S.at j = some (.lst xs) ∧ ixN xs.length i = some n ∧ S' = S.set j (some (.lst (xs.set n x))) := by
  unfold putIx at h
  split at h
  · rename_i i xs em
    split at h
    · rename_i n hn
      cases h
      exact ⟨i, xs, n, rfl, em, hn, rfl⟩
    · cases h
  · cases h
noncomputable def sSetIx (j : Nat) (f fi : FE) : FS := fun S => (f S).bind fun o S => match force o S with
  | some (x, S1) => (isLq j S1).bind fun _ S1 => (fi S1).bind fun i S2 => (match i.get S2 with
    | some k => (match putIx j k x S2 with
      | some S3 => .ok .nx S3
      | none => .no)
    | none => .no)
  | none => .no
theorem ds_setIx {kp : Nat → Bool} {j : Nat} {o i : Expr} {spos : Pos} {f fi : FE} (he : DE X f e) (ho : PE X o (tVar j)) (hi : DE X fi i)
    (ha : ∀ v, assign (.Subscript o i pos) X.env v = (do
      let ov ← holding [v] (eval o X.env)
      let iv ← holding [v, ov] (eval i X.env)
      standAt pos
      holding [v, ov, iv] (setItem ov iv v)
      release [v, ov, iv] []) := by intro _; rfl)
    (hs : swapsWithSole [.Subscript o i pos] e spos.line X.env = pure false := by rfl) (hw : swappedStores [.Subscript o i pos] e X.env = pure none := by rfl)
    (h1 : (assignEach [.Subscript o i pos] X.env).map (·.2) = [assign (.Subscript o i pos) X.env] := by rfl) : DS X kp (sSetIx j f fi) (.Assign [.Subscript o i pos] e spos) :=
  PS.imp (ps_asg he (pg_sub ho hi set_list ha) hs hw h1) fun D σ H ⟨F, O, S, fl, S', r, hf, k⟩ => by
    obtain ⟨oo, S1, h1, h2⟩ := R.bind_ok hf
    refine ⟨F, O, S, oo, S1, r, h1, fun v H1 F1 O1 st1 r1 ro => ?_⟩
    cases ef : force oo S1 with
    | none => rw [ef] at h2; cases h2
    | some z =>
      obtain ⟨x, S2⟩ := z
      rw [ef] at h2
      dsimp only at h2
      obtain ⟨F2, O2, st2, r2, rx⟩ := force_ok r1 ro ef
      obtain ⟨_, S2', h3, h4⟩ := R.bind_ok h2
      obtain ⟨e0, hl0⟩ := isLq_ok h3
      subst e0
      obtain ⟨w, hw⟩ := at_slot r2 hl0
      obtain ⟨oi, S3, h5, h6⟩ := R.bind_ok h4
      refine ⟨w, hw, F2, O2, S2', oi, S3, r2, h5, fun iv H3 F3 O3 st3 r3 ri => ?_⟩
      cases eg : oi.get S3 with
      | none => rw [eg] at h6; cases h6
      | some kk =>
        rw [eg] at h6
        dsimp only at h6
        cases ep : putIx j kk x S3 with
        | none => rw [ep] at h6; cases h6
        | some S4 =>
          rw [ep] at h6
          cases h6
          obtain ⟨ii, xs, n, rfl, em, hn, rfl⟩ := putIx_ok ep
          obtain rfl := (r3.view ri eg).int
          obtain ⟨a, vs, hv2, hH, rv, chg⟩ := r3.mut em
          rw [hw] at hv2
          cases hv2
          obtain ⟨st4, r4⟩ := chg (vs.set n v) (xs.set n x) (RepDs.set (rx.mono st3.ff) n rv)
          exact ⟨a, vs, ii, n, rfl, rfl, hH, by rw [rv.len]; exact hn, k σ _ _ _ (((st1.trans st2).trans st3).trans st4) r4 (Kp.refl _ _)⟩
/-! ### x op= e -/
noncomputable def OpDi (X : Cx) (op : Operator) (g : D → D → Option M) : Prop := OpR X (inplaceOp op) (semR (kg X) g)
noncomputable def iaddD : D → D → Option M
  | .int i, .int j => some (.d (.int (i + j)))
  | .str x, .str y => if x.length + y.length ≤ line then some (.d (.str (x ++ y))) else none
  | _, _ => none
theorem oi_add : OpDi X .Add iaddD := by
  intro pins s σ H x y v u Q I rx ry ⟨F, a, b, m, l, va, vb, e, w⟩
  cases a with
  | int i =>
    obtain rfl := va.int
    cases b with
    | int j => obtain rfl := vb.int; cases e; exact iop_add pins s σ H _ _ v u Q I rx ry ⟨i, j, rfl, rfl, w.int⟩
    | _ => cases e
  | str i =>
    obtain rfl := va.str
    cases b with
    | str j =>
      obtain rfl := vb.str
      have e : (if i.length + j.length ≤ line then some (M.d (.str (i ++ j))) else none) = some m := e
      split at e
      · rename_i hz; cases e; exact iop_add_str pins s σ H _ _ v u Q I rx ry ⟨i, j, rfl, rfl, by rw [← line_eq]; exact hz, w.str⟩
      · cases e
    | _ => cases e
  | _ => cases e
theorem Rp.wishD {K : KG} {H F : Hp} {O : OW} {σ : St} {S : SS} {z : D} {Q : VK} (r : Rp K H F O σ S) (k : ∀ v H' F' O', Stp H F O H' F' O' → Rp K H' F' O' σ S → RepD K F' v z → Q v H') : Wish K H F (.d z) Q :=
  r.wish fun v H' F' O' st r' rm => k v H' F' O' st r' rm
theorem pget_list : PGet X (rIxL X.K) := by
  intro pins s σ H o i ov iv Q I ro ri h
  obtain ⟨p, xs, i, z, rfl, rfl, hq, he, q⟩ := h
  cases ro
  obtain ⟨t, rfl⟩ := ri
  obtain ⟨its, r, pl, hz⟩ := I.list hq
  obtain ⟨j, h1, h2, h3, h4, h5⟩ := atI_get he
  obtain ⟨w, ew, rw'⟩ := r.get h2
  have hl := r.length
  have hn := line63
  have fin : EP X pins σ Q w s := ⟨z, H, I, rw', q⟩
  by_cases h0 : 0 ≤ i
  · have hj : i.toNat = j := by
      rw [PySem.seqIndex_of h0 h5] at h1
      exact Option.some.inj h1
    exact wpAny_getItem_list pl.isList h0 (by omega) (by rw [hj]; simpa using ew) fin
  · have hj : (i + (its.toArray.size : Int)).toNat = j := by
      rw [PySem.seqIndex_neg (by omega) h4] at h1
      rw [List.size_toArray, ← hl]
      exact Option.some.inj h1
    exact wpAny_getItem_list_neg pl.isList (by omega) (by rw [List.size_toArray] <;> omega) (by omega) (by rw [hj]; simpa using ew) fin
/-- x[i] op= e -/
noncomputable def sAugIx (j : Nat) (g : D → D → Option M) (fi f : FE) : FS := fun S => (isLq j S).bind fun _ S => (fi S).bind fun oi S => match oi.get S, S.at j with
  | some (.int k), some (.lst xs) => (match atI xs k with
    | some old => (f S).bind fun o S => (match o.get S with
      | some y => (match g old y with
        | some (.d z) => (match putIx j (.int k) z S with
          | some S3 => .ok .nx S3
          | none => .no)
        | _ => .no)
      | none => .no)
    | none => .no)
  | _, _ => .no
theorem ds_augIx {kp : Nat → Bool} {j : Nat} {o i : Expr} {op : Operator} {g : D → D → Option M} {f fi : FE} {tpos : Pos} (ho : PE X o (tVar j)) (hi : DE X fi i) (he : DE X f e) (hop : OpDi X op g)
    (ha : ∀ ov iv new, augStore i ov iv new = (do holding [new, ov, iv] (setItem ov iv new); release [new, ov, iv] []; pure .next) := by intros; rfl) : DS X kp (sAugIx j g fi f) (.AugAssign (.Subscript o i tpos) op e pos) :=
  PS.imp (ps_augS ho hi pget_list he (show PIp X op (semR (kg X) g) from hop) set_list ha) fun D σ H ⟨F, O, S, fl, S', r, hf, k⟩ => by
    obtain ⟨_, S0, h1, h2⟩ := R.bind_ok hf
    obtain ⟨e0, hl0⟩ := isLq_ok h1
    subst e0
    obtain ⟨w, hw⟩ := at_slot r hl0
    obtain ⟨oi, S1, h3, h4⟩ := R.bind_ok h2
    refine ⟨w, hw, F, O, S0, oi, S1, r, h3, fun iv H1 F1 O1 st1 r1 ri => ?_⟩
    split at h4
    · rename_i kk xs eg em
      obtain rfl := (r1.view ri eg).int
      obtain ⟨a, vs, hv2, hH, rv, _⟩ := r1.mut em
      rw [hw] at hv2
      cases hv2
      cases ea : atI xs kk with
      | none => rw [ea] at h4; cases h4
      | some old =>
        rw [ea] at h4
        dsimp only at h4
        obtain ⟨vo, hvo, rvo⟩ := rv.ati ea
        refine ⟨a, vs, kk, vo, rfl, rfl, .inl (.inl hH), hvo, ?_⟩
        obtain ⟨oo, S2, h5, h6⟩ := R.bind_ok h4
        refine ⟨F1, O1, S1, oo, S2, r1, h5, fun u H2 F2 O2 st2 r2 ro => ?_⟩
        cases eg2 : oo.get S2 with
        | none => rw [eg2] at h6; cases h6
        | some y =>
          rw [eg2] at h6
          dsimp only at h6
          cases ez : g old y with
          | none => rw [ez] at h6; cases h6
          | some m =>
            rw [ez] at h6
            cases m with
            | d z =>
              dsimp only at h6
              cases ep : putIx j (.int kk) z S2 with
              | none => rw [ep] at h6; cases h6
              | some S3 =>
                rw [ep] at h6
                cases h6
                obtain ⟨ii, xs2, n, e1, em2, hn, rfl⟩ := putIx_ok ep
                cases e1
                refine ⟨F2, old, y, _, r2.bs.fh, .fz (RepD.mono st2.ff rvo), r2.view ro eg2, ez, r2.wishD fun vz H3 F3 O3 st3 r3 rz => ?_⟩
                obtain ⟨a2, vs2, hv3, hH2, rv2, chg2⟩ := r3.mut em2
                rw [hw] at hv3
                cases hv3
                obtain ⟨st4, r4⟩ := chg2 (vs2.set n vz) (xs2.set n z) (RepDs.set rz n rv2)
                exact ⟨_, vs2, kk, n, rfl, rfl, hH2, by rw [rv2.len]; exact hn, k σ _ _ _ (((st1.trans st2).trans st3).trans st4) r4 (Kp.refl _ _)⟩
            | _ => cases h6
    · cases h4

/-! ### built-ins -/
inductive Views (K : KG) (H F : Hp) : List V → List D → Prop
  | nil : Views K H F [] []
  | cons {v : V} {vs : List V} {d : D} {ds : List D} : View K H F v d → Views K H F vs ds → Views K H F (v :: vs) (d :: ds)
noncomputable def semC (K : KG) (g : List D → Option M) : List V → Hp → VK → Prop := fun vs H Q => ∃ F xs m, Le F H ∧ Views K H F vs xs ∧ g xs = some m ∧ Wish K H F m Q
noncomputable def getAll : List Ov → SS → Option (List D)
  | [], _ => some []
  | o :: os, S => match o.get S with
    | some d => (match getAll os S with
      | some ds => some (d :: ds)
      | none => none)
    | none => none
theorem getAll_ok {K : KG} {H F : Hp} {O : OW} {σ : St} {S : SS} (r : Rp K H F O σ S) : ∀ {vs : List V} {os : List Ov} {ds : List D}, RepOvs K F σ vs os → getAll os S = some ds → Views K H F vs ds
  | _, _, _, .nil, h => by cases h; exact .nil
  | _, o :: os, ds, .cons ro rs, h => by
    have h : (match o.get S with | some d => (match getAll os S with | some ds => some (d :: ds) | none => none) | none => none) = some ds := h
    cases e1 : o.get S with
    | none => rw [e1] at h; cases h
    | some d =>
      rw [e1] at h
      dsimp only at h
      cases e2 : getAll os S with
      | none => rw [e2] at h; cases h
      | some dr =>
        rw [e2] at h
        cases h
        exact .cons (r.view ro e1) (getAll_ok r rs e2)
noncomputable def mBlt (g : List D → Option M) (fas : FA) : FM := fun S => (fas S).bind fun os S => match getAll os S with
  | some ds => (match g ds with
    | some m => .ok m S
    | none => .no)
  | none => .no
theorem blt_rd {K : KG} {g : List D → Option M} {fas : FA} {σ : St} {H : Hp} {Q : VK} (h : rdM K (mBlt g fas) σ H Q) : tCB (semC K g) (rdA K fas) σ H Q := by
  obtain ⟨F, O, S, m, S', r, hf, k⟩ := h
  obtain ⟨os, S1, h1, h2⟩ := R.bind_ok hf
  refine ⟨F, O, S, os, S1, r, h1, fun vs H1 F1 O1 st1 r1 ro => ?_⟩
  cases eg : getAll os S1 with
  | none => rw [eg] at h2; cases h2
  | some ds =>
    rw [eg] at h2
    dsimp only at h2
    cases em : g ds with
    | none => rw [em] at h2; cases h2
    | some m' =>
      rw [em] at h2
      cases h2
      exact ⟨F1, ds, m, r1.bs.fh, getAll_ok r1 ro eg, em, r1.wish fun w H2 F2 O2 st2 r2 rm => k w H2 F2 O2 (st1.trans st2) r2 rm⟩
theorem dm_blt {id : String} {x : Str} {es : List Expr} {p : Pos} {g : List D → Option M} {fas : FA} (hc : CallR X (.builtin id) (semC (kg X) g)) (hg : Gl X x) (hm : X.mg x = none) (hv : bootBuiltins x = some (.builtin id)) (ha : DA X fas (e :: es))
    (hn : x ≠ "__name__" := by decide) (hdb : (x == ("__debug__" : Str)) = false := by decide)
    (he : starEach (e :: es) X.env = (false, eval e X.env) :: starEach es X.env := by rfl) (hpl : (backTo pos (starEach es X.env)).any (·.1) = false := by rfl) : DM X (mBlt g fas) (.Call (.Name x p) (e :: es) [] pos) :=
  PE.imp (pe_callB hc hg hm hv ha hn hdb he hpl) fun σ H Q h => blt_rd h
end

noncomputable def on1 (g : D → Option M) : List D → Option M
  | [x] => g x
  | _ => none
theorem call1 {X : Cx} {f : Value} {g : D → Option M} (h : ∀ (pins : List (Addr × Obj)) (s : Shared) (σ : St) (H F : Hp) (v : V) (x : D) (us : List Value) (m : M) (Q : VK), Inv X pins σ H s → Vals [v] us → Le F H → View (kg X) H F v x → g x = some m → Wish (kg X) H F m Q →
    wpAny (model X.prog X.w) X.A (call f us) (EP X pins σ Q) X.xe s) : CallR X f (semC (kg X) (on1 g)) := by
  intro pins s σ H vs us Q I r ⟨F, xs, m, l, w, e, wi⟩
  cases w with
  | nil => cases e
  | cons wx w =>
    cases w with
    | nil => exact h pins s σ H F _ _ us m Q I r l wx e wi
    | cons _ _ => cases e
section
variable {X : Cx}
noncomputable def absD : D → Option M
  | .int i => some (.d (.int (if i < 0 then -i else i)))
  | _ => none
theorem cd_abs : CallR X (.builtin "abs") (semC (kg X) (on1 absD)) := call1 fun pins s σ H F v x us m Q I r l wx e wi => by
  cases x with
  | int i => obtain rfl := wx.int; cases e; exact call_abs pins s σ H _ us Q I r ⟨i, rfl, wi.int⟩
  | _ => cases e
noncomputable def lenD : D → Option M
  | .lst xs => some (.d (.int xs.length))
  | .scr xs => some (.d (.int xs.length))
  | .tup xs => some (.d (.int xs.length))
  | .str x => if x.length ≤ line then some (.d (.int x.length)) else none
  | _ => none
theorem cd_len : CallR X (.builtin "len") (semC (kg X) (on1 lenD)) := call1 fun pins s σ H F v x us m Q I r l wx e wi => by
  cases x with
  | lst ds =>
    obtain ⟨a, vs, rfl, h1, r1⟩ := wx.list l
    cases e
    exact call_len pins s σ H _ us Q I r ⟨_, _, rfl, .inl ⟨vs, .inl h1, rfl⟩, by rw [r1.len]; exact wi.int⟩
  | scr ds =>
    obtain ⟨a, vs, rfl, h1, r1⟩ := wx.scr l
    cases e
    exact call_len pins s σ H _ us Q I r ⟨_, _, rfl, .inl ⟨vs, h1, rfl⟩, by rw [r1.len]; exact wi.int⟩
  | tup ds =>
    obtain ⟨a, vs, rfl, h1, r1⟩ := wx.tuple l
    cases e
    exact call_len pins s σ H _ us Q I r ⟨_, _, rfl, .inr ⟨vs, h1, rfl⟩, by rw [r1.len]; exact wi.int⟩
  | str x =>
    obtain rfl := wx.str
    have e : (if x.length ≤ line then some (M.d (.int x.length)) else none) = some m := e
    split at e
    · rename_i hz
      cases e
      exact call_len pins s σ H _ us Q I r ⟨_, _, rfl, ⟨by rw [← line_eq]; exact hz, rfl⟩, wi.int⟩
    · cases e
  | _ => cases e
end
/-! ### the law's end -/
/-- the script's list -/
noncomputable def scrD (ns : List Int) : D := .scr (ns.map .int)
theorem repDs_ints {K : KG} {F : Hp} : ∀ ns : List Int, RepDs K F (ns.map V.int) (ns.map D.int)
  | [] => .nil
  | n :: ns => .cons (.int n) (repDs_ints ns)
/-- a promise for each naming of classes -/
noncomputable def spA (K : PySem.W.Frag) (np : Nat) (g : List M → CR) : Sp := fun vs H Q E => ∀ cl, spD ⟨K, cl, none⟩ np g vs H Q E
theorem FnG.imp {P : Program} {w : World} {K : PySem.W.Frag} {mg : Str → Option Value} {base : Heap} {k : Nat} {f : Addr} {fd : FuncData} {ps : List Str} {sp sp' : Sp} (F : FnG P w K mg base k f fd ps sp)
    (h : ∀ vs H Q E, sp' vs H Q E → sp vs H Q E) : FnG P w K mg base k f fd ps sp' :=
  ⟨fun vs H Q E q => F.len vs H Q E (h _ _ _ _ q), fun A outer s H args us vs Q E hr he hb hv hs => F.run A outer s H args us vs Q E hr he hb hv (h _ _ _ _ hs)⟩
theorem FnG.all {P : Program} {w : World} {K : PySem.W.Frag} {mg : Str → Option Value} {base : Heap} {k np : Nat} {f : Addr} {fd : FuncData} {ps : List Str} {cl : Str → Option Addr} {g : List M → CR} (F : FnG P w K mg base k f fd ps (spD ⟨K, cl, none⟩ np g)) :
    FnG P w K mg base k f fd ps (spA K np g) := F.imp fun _ _ _ _ h => h cl
/-- what walk_of asks of the law's promise -/
theorem law_sp0 {K : KG} {g : List M → CR} {H : Hp} {a : Addr} {ns : List Int} (hH : L2.Only H) (hS : SqL K H a (ns.map V.int)) (hg : ∃ fin, g [.d (scrD ns)] = .ok (.d (.bl true)) fin) :
    spD K 1 g [.ref a] H (fun v _ => v = .bl true) fun _ _ _ => False := by
  obtain ⟨fin, hg⟩ := hg
  refine ⟨H, fun _ => none, [.d (scrD ns)], _, fin, rfl, rfl, ⟨Le.refl _, fun a q e => by cases e⟩, fun p m e => ?_, hg, fun v H' F' O' st bs rm rf => ?_⟩
  · cases p with
    | zero => simp at e; subst e; exact ⟨.ref a, by simp, .scr hS (repDs_ints ns)⟩
    | succ p => simp at e
  · cases (show RepD K F' v (.bl true) from rm)
    rfl
theorem law_sp {K : PySem.W.Frag} {g : List M → CR} {H : Hp} {a : Addr} {ns : List Int} (hH : L2.Only H) (hS : SqL K H a (ns.map V.int)) (hg : ∃ fin, g [.d (scrD ns)] = .ok (.d (.bl true)) fin) :
    spA K 1 g [.ref a] H (fun v _ => v = .bl true) fun _ _ _ => False := fun cl => law_sp0 (K := ⟨K, cl, none⟩) hH hS hg
/-- the law's call, from a promise that holds where no repr is under way -/
theorem law_callG {P : Program} {w : World} {K : PySem.W.Frag} {mg mb : Str → Option Value} {k : Nat} {fa a : Addr} {fd : FuncData} {x : Str} {sp : Sp} {s₁ : Shared} {vs : List Value} {ns : List Int}
    (KX : K.In s₁.heap) (hns : s₁.heap.Ns mainGlobals mg) (hb : s₁.heap.Ns builtinsNs mb) (hbb : ∀ x : Str, x ≠ "__name__" → mb x = bootBuiltins x) (hlim : s₁.heap.NoLimit) (hg : s₁.gens = #[])
    (ha : s₁.heap.get? a = some { cls := .type "list", data := .seq vs.toArray }) (hi : IntsAre vs ns) (hl : ns.length ≤ sizeLine) (hr : RoomG k callerA)
    (F : ∀ base : Heap, K.In base → base.Ns mainGlobals mg → FnG P w K mg base k fa fd [x] sp) (hbind : ∀ (s : Shared) (u : Value), BindsTo s fd ⟨[u], []⟩ [(x, u)])
    (hsp : ∀ H : Hp, L2.Only H → SqL K H a (ns.map V.int) → sp [.ref a] H (fun v _ => v = .bl true) fun _ _ _ => False) :
    codeAny (model P w) callerA (.call (.ref fa) ⟨[.ref a], []⟩) (fun r s' => r = .ok (.ret (.bool true)) ∧ OldK s₁.heap s'.heap ∧ s'.os = s₁.os ∧ AllBare s'.gens) s₁ := by
  have rv := L2.vals_ints hi
  have noB : ∀ b ∈ frs ([] : List Env), ∀ q : Prop, q := fun b z => absurd (show b ∈ ([] : List Addr) from z) (by simp)
  -- all from one abstract heap
  suffices h : ∃ H : Hp, L2.Only H ∧ SqL K H a (ns.map V.int) ∧ HOk P w H s₁.heap ∧ (∀ b, H b ≠ none → b = a ∧ K.lookup a = none) by
    obtain ⟨H, hO, hS, hok, hA⟩ := h
    have only : ∀ {b : Addr}, b ≠ a → H b = none := fun {b} n => by
      cases q : H b with
      | none => rfl
      | some u => exact absurd (hA b (by rw [q]; simp)).1 n
    have nsK : ∀ {b : Addr} {m : Str → Option Value}, s₁.heap.Ns b m → (hidT s₁.heap H).Ns b m := fun {b m} ⟨o, es, ep, e, d, r⟩ => by
      refine ⟨o, es, ep, hidT_get e (only fun z => ?_), d, r⟩
      rw [z, ha] at e
      cases e
      cases d
    have hKb : K.In (hidT s₁.heap H) := fun b o e => hidT_get (KX b o e) (by
      cases q : H b with
      | none => rfl
      | some u =>
        obtain ⟨rfl, z⟩ := hA b (by rw [q]; simp)
        rw [z] at e
        cases e)
    obtain ⟨mc, l1, l2⟩ := hlim
    have e0 : Env0 P w K mg (hidT s₁.heap H) callerA [] s₁ H :=
      ⟨rfl, ⟨hKb, nsK hns, ⟨mb, nsK hb, hbb⟩, ⟨mc, nsK l1, l2⟩⟩, fun b o e => of_hidT e, Nat.le_of_eq (hidT_size _ _), trivial, fun b z => noB b z _, hok, .of_eq hg⟩
    refine codeAny_mono ((F _ hKb (nsK hns)).run callerA [] s₁ H ⟨[.ref a], []⟩ [.ref a] [.ref a] _ _ hr e0 (hbind s₁ (.ref a)) (.cons rfl .nil) (hsp H hO hS)) fun r s' h => ?_
    cases r with
    | error e => exact False.elim h
    | ok fl =>
      cases fl with
      | next => exact False.elim h
      | brk => exact False.elim h
      | cont => exact False.elim h
      | ret u =>
        obtain ⟨v, H', os, bare, un, hok', r', rfl⟩ := h
        obtain rfl : u = Value.bool true := r'
        refine ⟨rfl, OldK.of_keep fun b o e => ?_, os, bare⟩
        rcases hO b with z | ⟨ob, xs, z⟩
        · exact un.keep b o e z (fun q => noB b q _) (by simp)
        · have e1 := (hok b _ z).1
          rw [e] at e1
          cases e1
          exact (hok' b _ (un.frzs b _ _ z)).1
  cases hk : K.lookup a with
  | some o =>
    have e := KX a o hk
    rw [ha] at e
    cases e
    exact ⟨fun _ => none, fun _ => .inl rfl, .inr ⟨_, vs.toArray, _, hk, rfl, rfl, rfl, by rw [List.size_toArray, hi.length]; exact hl, by simpa using rv⟩, fun b u z => absurd z (by intro q; cases q), fun b z => absurd rfl z⟩
  | none =>
    have at_ : ∀ b, (if b = a then some (HO.frz { cls := .type "list", data := .seq vs.toArray } (.lst (ns.map V.int))) else none) ≠ none → b = a := fun b z => by
      by_cases c : b = a
      · exact c
      · rw [if_neg c] at z; exact absurd rfl z
    refine ⟨fun b => if b = a then some (.frz { cls := .type "list", data := .seq vs.toArray } (.lst (ns.map V.int))) else none, fun b => ?_, .inl (.inr ⟨{ cls := .type "list", data := .seq vs.toArray }, if_pos rfl⟩), fun b u z => ?_, fun b z => ⟨at_ b z, rfl⟩⟩
    · by_cases c : b = a
      · exact .inr ⟨_, _, if_pos c⟩
      · exact .inl (if_neg c)
    · obtain rfl := at_ b (fun q => by have q2 := q.symm.trans z; cases q2)
      have z := (if_pos rfl).symm.trans z
      cases z
      exact ⟨ha, by rw [List.length_map]; exact hl, vs, _, rv, ha⟩
/-- what k_head leaves, from such a promise -/
theorem walk_g {l : PySem.W.OpenLaw} {n k : Nat} {q : Program} {loose : List Str} {XP : (Str → Option Value) → Heap → Prop} {YP : World → Heap → Prop} {d : DefRec} {K : Params → PySem.W.Frag} {sp : World → Sp} {x : Str}
    (hn : l.most = some n) (hn2 : n ≤ sizeLine) (hdf : d.params.defaults = []) (hr : RoomG k callerA)
    (hY : ∀ (w : World) (h : Heap), YP w h → (K w.params).In h)
    (F : ∀ (w : World) (mg : Str → Option Value) (fa : Addr) (h : Heap), (K w.params).In h → h.Ns mainGlobals mg → mg d.name = some (.ref fa) →
      ∃ fd : FuncData, (∀ (s : Shared) (u : Value), BindsTo s fd ⟨[u], []⟩ [(x, u)]) ∧
        ∀ base : Heap, (K w.params).In base → base.Ns mainGlobals mg → FnG l.prog w (K w.params) mg base k fa fd [x] (sp w))
    (hsp : ∀ (w : World) (H : Hp) (a : Addr) (ns : List Int), ns.length ≤ n → L2.Only H → SqL (K w.params) H a (ns.map V.int) → sp w [.ref a] H (fun v _ => v = .bl true) fun _ _ _ => False) :
    PySem.W.WalkO q loose XP YP l.row.toRowW d [] (fun f vs => PySem.call f vs) :=
  Att.attach_call hn hdf fun w s₀ s₁ mg mb fa o pm cd doc a vs ns G Y ho hd hcd hmg hobj hints hlen hg => by
    have KX := hY w _ Y
    obtain ⟨fd, hb, hF⟩ := F w mg fa _ KX G.T.g hmg
    exact law_callG KX G.T.g G.T.b G.T.builtins G.T.nolimit hg hobj hints (Nat.le_trans hlen hn2) hr hF hb (fun H hO hS => hsp w H a ns hlen hO hS)

noncomputable def kpl (l : List Bool) (i : Nat) : Bool := l.getD i false
theorem hu192 {A : Around} {k : Nat} (h : RoomG k A) : A.units + 192 < cLine := by have := h.rm.un; omega
theorem fnD_zero {P : Program} {w : World} {K : PySem.W.Frag} {mg : Str → Option Value} {base : Heap} {n : Nat} {x qual : Str} {st : Stmt} {f : Addr} {fd : FuncData} {ps : List Str} (F : Fun K x qual st f fd) (m : mg x = some (.ref f)) (b : Binds K fd ps []) :
    FnD P w K mg base n x ps.length (fun _ => .no) := by
  refine ⟨f, fd, ps, rfl, ⟨fun vs H Q E ⟨_, _, _, _, _, h, _⟩ => h, fun A outer s H args us vs Q E _ _ _ _ h => ?_⟩, m, F.kp, b⟩
  obtain ⟨_, _, _, _, _, _, _, _, _, h, _⟩ := h
  cases h
@[simp] theorem at_nil (i : Nat) : SS.at [] i = none := (rfl)
@[simp] theorem at_zero (m : Option M) (S : SS) : SS.at (m :: S) 0 = m := (rfl)
@[simp] theorem at_succ (m : Option M) (S : SS) (i : Nat) : SS.at (m :: S) (i + 1) = SS.at S i := (rfl)
@[simp] theorem get_d (x : D) (S : SS) : Ov.get (.d x) S = some x := (rfl)
@[simp] theorem get_j (i : Nat) (S : SS) : Ov.get (.j i) S = (S.at i).bind M.vw := (rfl)
@[simp] theorem bind_ok {α β : Type} (a : α) (S : SS) (g : α → SS → R β) : R.bind (.ok a S) g = g a S := (rfl)
@[simp] theorem bind_ex {α β : Type} (a : Exn) (S : SS) (g : α → SS → R β) : R.bind (.ex a S) g = .ex a S := (rfl)
@[simp] theorem bind_no {α β : Type} (g : α → SS → R β) : R.bind .no g = .no := (rfl)
@[simp] theorem toD_d (x : D) : M.toD (.d x) = x := (rfl)
@[simp] theorem toD_lst (x : List D) : M.toD (.lst x) = .lst x := (rfl)
@[simp] theorem toD_dk (x : List (Key × D)) : M.toD (.dk x) = .dk x := (rfl)
@[simp] theorem toD_dt (x : List (List Key × D)) : M.toD (.dt x) = .dt x := (rfl)
@[simp] theorem toD_seq (x : List M) : M.toD (.seq x) = .lst (M.toDs x) := (rfl)
@[simp] theorem toD_box (x : List M) : M.toD (.box x) = .tup (M.toDs x) := (rfl)
@[simp] theorem toD_ob (c : Str) (ns : List Str) (x : List M) : M.toD (.ob c ns x) = .obj c (ns.zip (M.toDs x)) := (rfl)
@[simp] theorem toDs_nil : M.toDs [] = [] := (rfl)
@[simp] theorem toDs_cons (m : M) (ms : List M) : M.toDs (m :: ms) = m.toD :: M.toDs ms := (rfl)
@[simp] theorem vw_d (x : D) : M.vw (.d x) = some x := (rfl)
@[simp] theorem vw_lst (x : List D) : M.vw (.lst x) = some (.lst x) := (rfl)
@[simp] theorem vw_dk (x : List (Key × D)) : M.vw (.dk x) = some (.dk x) := (rfl)
@[simp] theorem vw_dt (x : List (List Key × D)) : M.vw (.dt x) = some (.dt x) := (rfl)
@[simp] theorem own_d (x : D) : M.own (.d x) = false := (rfl)
@[simp] theorem own_lst (x : List D) : M.own (.lst x) = true := (rfl)
@[simp] theorem own_dk (x : List (Key × D)) : M.own (.dk x) = true := (rfl)
@[simp] theorem own_dt (x : List (List Key × D)) : M.own (.dt x) = true := (rfl)
@[simp] theorem own_seq (x : List M) : M.own (.seq x) = true := (rfl)
@[simp] theorem own_box (x : List M) : M.own (.box x) = true := (rfl)
@[simp] theorem own_ob (c : Str) (ns : List Str) (x : List M) : M.own (.ob c ns x) = true := (rfl)
@[simp] theorem isL_lst (x : List D) : isL (some (.lst x)) = true := (rfl)
@[simp] theorem asB_bl (b : Bool) (S : SS) : asB (.d (.bl b)) S = .ok b S := (rfl)

/-- the words of expressions and statements, to be reckoned -/
@[simp] theorem eN_ap (i : Nat) (S : SS) : eN i S = match S.at i with | some _ => .ok (.j i) S | none => .no := (rfl)
@[simp] theorem eC_ap (d : D) (S : SS) : eC d S = .ok (.d d) S := (rfl)
@[simp] theorem eM_ap (f : FM) (S : SS) : eM f S = (f S).bind fun m S => .ok (.d m.toD) S := (rfl)
@[simp] theorem force_d (x : D) (S : SS) : force (.d x) S = some (x, S) := (rfl)
@[simp] theorem force_j (i : Nat) (S : SS) : force (.j i) S = match S.at i with | some m => some (m.toD, S.set i (some (.d m.toD))) | none => none := (rfl)
@[simp] theorem mE_ap (f : FE) (S : SS) : mE f S = (f S).bind fun o S => match force o S with | some (d, S') => .ok (.d d) S' | none => .no := (rfl)
@[simp] theorem onD_ap (g : D → D → Option M) (a b : Ov) (S : SS) : onD g a b S = match a.get S, b.get S with | some x, some y => (match g x y with | some m => .ok m S | none => .no) | _, _ => .no := (rfl)
@[simp] theorem mBin_ap (g : D → D → Option M) (fa fb : FE) (S : SS) : mBin g fa fb S = (fa S).bind fun a S => (fb S).bind fun b S => onD g a b S := (rfl)
@[simp] theorem tM_ap (f : FM) (S : SS) : tM f S = (f S).bind asB := (rfl)
@[simp] theorem tOr_ap (f g : FB) (S : SS) : tOr' f g S = (f S).bind fun c S => if c = true then .ok true S else g S := (rfl)
@[simp] theorem tNot_ap (f : FB) (S : SS) : tNot' f S = (f S).bind fun c S => .ok (!c) S := (rfl)
@[simp] theorem aNil_ap (S : SS) : aNil S = .ok [] S := (rfl)
@[simp] theorem aCons_ap (f : FE) (g : FA) (S : SS) : aCons f g S = (f S).bind fun o S => (g S).bind fun os S => .ok (o :: os) S := (rfl)
@[simp] theorem forceAll_nil (S : SS) : forceAll [] S = some ([], S) := (rfl)
@[simp] theorem forceAll_cons (o : Ov) (os : List Ov) (S : SS) : forceAll (o :: os) S = match force o S with | some (d, S1) => (match forceAll os S1 with | some (ds, S2) => some (d :: ds, S2) | none => none) | none => none := (rfl)
@[simp] theorem dispF_ap (mk : List D → M) (os : List Ov) (S : SS) : dispF mk os S = match forceAll os S with | some (ds, S') => if ds.length ≤ 16777216 then .ok (mk ds) S' else .no | none => .no := (rfl)
@[simp] theorem mTup_ap (f : FA) (S : SS) : mTup f S = (f S).bind (dispF fun ds => .d (.tup ds)) := (rfl)
@[simp] theorem mLst_ap (f : FA) (S : SS) : mLst f S = (f S).bind (dispF fun ds => .lst ds) := (rfl)
@[simp] theorem mNeg_ap (f : FE) (S : SS) : mNeg f S = (f S).bind fun o S => match o.get S with | some (.int i) => .ok (.d (.int (-i))) S | _ => .no := (rfl)
@[simp] theorem pNo_ap (S : SS) : pNo S = .ok none S := (rfl)
@[simp] theorem pIx_ap (f : FE) (S : SS) : pIx f S = (f S).bind fun o S => match o.get S with | some (.int i) => .ok (some i) S | _ => .no := (rfl)
@[simp] theorem mSl_ap (f : FE) (l h : FP) (S : SS) : mSl f l h S = (f S).bind fun o S => (l S).bind fun lo S => (h S).bind fun hi S => match o.get S with
  | some x => (match sliceD lo hi x with | some m => .ok m S | none => .no)
  | none => .no := (rfl)
@[simp] theorem getAll_nil (S : SS) : getAll [] S = some [] := (rfl)
@[simp] theorem getAll_cons (o : Ov) (os : List Ov) (S : SS) : getAll (o :: os) S = match o.get S with | some d => (match getAll os S with | some ds => some (d :: ds) | none => none) | none => none := (rfl)
@[simp] theorem mBlt_ap (g : List D → Option M) (fas : FA) (S : SS) : mBlt g fas S = (fas S).bind fun os S => match getAll os S with | some ds => (match g ds with | some m => .ok m S | none => .no) | none => .no := (rfl)
@[simp] theorem on1_ap (g : D → Option M) (x : D) : on1 g [x] = g x := (rfl)
@[simp] theorem lend_nil (S : SS) : lend [] S = some ([], S) := (rfl)
@[simp] theorem lend_d (x : D) (os : List Ov) (S : SS) : lend (.d x :: os) S = match lend os S with | some (ms, S') => some (.d x :: ms, S') | none => none := (rfl)
@[simp] theorem lend_j (i : Nat) (os : List Ov) (S : SS) : lend (.j i :: os) S = match S.at i with
    | some m => (match lend os (if m.own then S.set i none else S) with | some (ms, S') => some (m :: ms, S') | none => none)
    | none => none := (rfl)
@[simp] theorem back_nil (ms : List M) (fs : List (Option M)) (S : SS) : back [] ms fs S = S := by unfold back; rfl
@[simp] theorem back_d (x : D) (os : List Ov) (m : M) (ms : List M) (f : Option M) (fs : List (Option M)) (S : SS) : back (.d x :: os) (m :: ms) (f :: fs) S = back os ms fs S := (rfl)
@[simp] theorem back_j (i : Nat) (os : List Ov) (m : M) (ms : List M) (f : Option M) (fs : List (Option M)) (S : SS) : back (.j i :: os) (m :: ms) (f :: fs) S = back os ms fs (if m.own then S.set i f else S) := (rfl)
@[simp] theorem sNil_ap (S : SS) : sNil S = .ok .nx S := (rfl)
@[simp] theorem sSeq_ap (f g : FS) (S : SS) : sSeq f g S = (f S).bind fun fl S => match fl with | .nx => g S | .rt m => .ok (.rt m) S | .bk => .ok .bk S | .ct => .ok .ct S := (rfl)
@[simp] theorem sRet_ap (f : FM) (S : SS) : sRet f S = (f S).bind fun m S => .ok (.rt m) S := (rfl)
@[simp] theorem sRetV_ap (i : Nat) (S : SS) : sRetV i S = match S.at i with | some m => .ok (.rt m) (S.set i none) | none => .no := (rfl)
@[simp] theorem sIf_ap (t : FB) (f g : FS) (S : SS) : sIf t f g S = (t S).bind fun c S => if c = true then f S else g S := (rfl)
@[simp] theorem sSet_ap (i : Nat) (f : FM) (S : SS) : sSet i f S = (f S).bind fun m S => .ok .nx (S.set i (some m)) := (rfl)
@[simp] theorem gN_ap (i : Nat) (d : D) (S : SS) : gN i d S = some (S.set i (some (.d d))) := (rfl)
@[simp] theorem gsNil_ap (S : SS) : gsNil [] S = some S := (rfl)
@[simp] theorem gsCons_ap (g : FG) (gs : FGs) (d : D) (ds : List D) (S : SS) : gsCons g gs (d :: ds) S = match g d S with | some S1 => gs ds S1 | none => none := (rfl)
@[simp] theorem gT_ap (n : Nat) (gs : FGs) (ds : List D) (S : SS) : gT n gs (.tup ds) S = if ds.length = n then gs ds S else none := (rfl)
@[simp] theorem sAsg_ap (f : FE) (g : FG) (S : SS) : sAsg f g S = (f S).bind fun o S => match force o S with
  | some (d, S1) => (match g d S1 with | some S2 => .ok .nx S2 | none => .no)
  | none => .no := (rfl)
@[simp] theorem iSeq_ap (f : FE) (S : SS) : iSeq f S = (f S).bind fun o S => match force o S with
  | some (.lst ds, S1) => .ok ds S1
  | some (.tup ds, S1) => .ok ds S1
  | some (.str x, S1) => .ok (strSeq x) S1
  | _ => .no := (rfl)
@[simp] theorem iRng1_ap (f : FE) (S : SS) : iRng1 f S = (f S).bind fun o S => match o.get S with
  | some (.int j) => if -4611686018427387904 ≤ j ∧ j < 4611686018427387904 then .ok (rangeD 0 j.toNat) S else .no
  | _ => .no := (rfl)
@[simp] theorem iRng2_ap (f g : FE) (S : SS) : iRng2 f g S = (f S).bind fun o S => (g S).bind fun p S => match o.get S, p.get S with
  | some (.int i), some (.int j) => if (-4611686018427387904 ≤ i ∧ i < 4611686018427387904) ∧ -4611686018427387904 ≤ j ∧ j < 4611686018427387904 then .ok (rangeD i (j - i).toNat) S else .no
  | _, _ => .no := (rfl)
@[simp] theorem forL_nil (g : FG) (b : FS) (S : SS) : forL g b [] S = .ok .nx S := (rfl)
theorem forL_cons (g : FG) (b : FS) (d : D) (ds : List D) (S : SS) : forL g b (d :: ds) S = match g d S with
    | none => .no
    | some S1 => (b S1).bind fun fl S2 => match fl with
      | .nx => forL g b ds S2
      | .ct => forL g b ds S2
      | .bk => .ok .nx S2
      | .rt m => .ok (.rt m) S2 := (rfl)
@[simp] theorem sFor_ap (i : FI) (g : FG) (b : FS) (S : SS) : sFor i g b S = (i S).bind fun ds S => forL g b ds S := (rfl)
@[simp] theorem isLq_ap (j : Nat) (S : SS) : isLq j S = if isL (S.at j) = true then .ok () S else .no := (rfl)
@[simp] theorem putIx_ap (j : Nat) (k : D) (x : D) (S : SS) : putIx j k x S = match k, S.at j with
  | .int k, some (.lst xs) => (match ixN xs.length k with
    | some n => some (S.set j (some (.lst (xs.set n x))))
    | none => none)
  | _, _ => none := (rfl)
@[simp] theorem sSetIx_ap (j : Nat) (f fi : FE) (S : SS) : sSetIx j f fi S = (f S).bind fun o S => match force o S with
  | some (x, S1) => (isLq j S1).bind fun _ S1 => (fi S1).bind fun i S2 => (match i.get S2 with
    | some k => (match putIx j k x S2 with
      | some S3 => .ok .nx S3
      | none => .no)
    | none => .no)
  | none => .no := (rfl)
@[simp] theorem sAugIx_ap (j : Nat) (g : D → D → Option M) (fi f : FE) (S : SS) : sAugIx j g fi f S = (isLq j S).bind fun _ S => (fi S).bind fun oi S => match oi.get S, S.at j with
  | some (.int k), some (.lst xs) => (match atI xs k with
    | some old => (f S).bind fun o S => (match o.get S with
      | some y => (match g old y with
        | some (.d z) => (match putIx j (.int k) z S with
          | some S3 => .ok .nx S3
          | none => .no)
        | _ => .no)
      | none => .no)
    | none => .no)
  | _, _ => .no := (rfl)
@[simp] theorem addD_ii (i j : Int) : addD (.int i) (.int j) = some (.d (.int (i + j))) := (rfl)
@[simp] theorem addD_ss (x y : Str) : addD (.str x) (.str y) = if x.length + y.length ≤ 16777216 then some (.d (.str (x ++ y))) else none := (rfl)
@[simp] theorem addD_ll (x y : List D) : addD (.lst x) (.lst y) = if x.length + y.length ≤ 16777216 then some (.lst (x ++ y)) else none := (rfl)
@[simp] theorem addD_tt (x y : List D) : addD (.tup x) (.tup y) = if x.length + y.length ≤ 16777216 then some (.d (.tup (x ++ y))) else none := (rfl)
@[simp] theorem iaddD_ii (i j : Int) : iaddD (.int i) (.int j) = some (.d (.int (i + j))) := (rfl)
@[simp] theorem mulD_ii (i j : Int) : mulD (.int i) (.int j) = if mulOk i j = true then some (.d (.int (i * j))) else none := (rfl)
@[simp] theorem fdivD_ii (i j : Int) : fdivD (.int i) (.int j) = if divOk j = true then some (.d (.int (i.fdiv j))) else none := (rfl)
@[simp] theorem modD_ii (i j : Int) : modD (.int i) (.int j) = if j ≠ 0 then some (.d (.int (i.fmod j))) else none := (rfl)
@[simp] theorem powD_ii (i j : Int) : powD (.int i) (.int j) = if 0 ≤ j ∧ j ≤ 1000000 ∧ i.natAbs < 2 ^ 64 then some (.d (.int (i ^ j.toNat))) else none := (rfl)
@[simp] theorem ltD_ii (i j : Int) : ltD (.int i) (.int j) = some (.d (.bl (decide (i < j)))) := (rfl)
@[simp] theorem gtD_ii (i j : Int) : gtD (.int i) (.int j) = some (.d (.bl (decide (j < i)))) := (rfl)
@[simp] theorem geD_ii (i j : Int) : geD (.int i) (.int j) = some (.d (.bl (decide (j ≤ i)))) := (rfl)
@[simp] theorem eqD_ii (i j : Int) : eqD (.int i) (.int j) = some (.d (.bl (i == j))) := (rfl)
@[simp] theorem eqD_ss (i j : Str) : eqD (.str i) (.str j) = some (.d (.bl (i == j))) := (rfl)
@[simp] theorem eqD_bb (i j : Bool) : eqD (.bl i) (.bl j) = some (.d (.bl (i == j))) := (rfl)
@[simp] theorem neD_ii (i j : Int) : neD (.int i) (.int j) = some (.d (.bl (!(i == j)))) := (rfl)
@[simp] theorem neD_ss (i j : Str) : neD (.str i) (.str j) = some (.d (.bl (!(i == j)))) := (rfl)
@[simp] theorem ixD_l (xs : List D) (i : Int) : ixD (.lst xs) (.int i) = (atI xs i).map .d := (rfl)
@[simp] theorem ixD_t (xs : List D) (i : Int) : ixD (.tup xs) (.int i) = (atI xs i).map .d := (rfl)
@[simp] theorem lenD_l (xs : List D) : lenD (.lst xs) = some (.d (.int xs.length)) := (rfl)
@[simp] theorem lenD_t (xs : List D) : lenD (.tup xs) = some (.d (.int xs.length)) := (rfl)
@[simp] theorem lenD_c (xs : List D) : lenD (.scr xs) = some (.d (.int xs.length)) := (rfl)
theorem atI_nn {α : Type} (xs : List α) (i : Nat) : atI xs (i : Int) = xs[i]? := by
  unfold atI ixN
  rw [if_pos (by omega)]
  by_cases h : i < xs.length
  · rw [if_pos (by omega)]; simp
  · rw [if_neg (by omega)]; simp; omega
@[simp] theorem atI_2 {α : Type} (xs : List α) : atI xs (2 : Int) = xs[(2 : Nat)]? := atI_nn xs 2
@[simp] theorem atI_3 {α : Type} (xs : List α) : atI xs (3 : Int) = xs[(3 : Nat)]? := atI_nn xs 3
@[simp] theorem atI_4 {α : Type} (xs : List α) : atI xs (4 : Int) = xs[(4 : Nat)]? := atI_nn xs 4
@[simp] theorem atI_5 {α : Type} (xs : List α) : atI xs (5 : Int) = xs[(5 : Nat)]? := atI_nn xs 5
@[simp] theorem atI_6 {α : Type} (xs : List α) : atI xs (6 : Int) = xs[(6 : Nat)]? := atI_nn xs 6
@[simp] theorem atI_7 {α : Type} (xs : List α) : atI xs (7 : Int) = xs[(7 : Nat)]? := atI_nn xs 7
@[simp] theorem atI_8 {α : Type} (xs : List α) : atI xs (8 : Int) = xs[(8 : Nat)]? := atI_nn xs 8
@[simp] theorem atI_m1 {α : Type} (xs : List α) : atI xs (-1 : Int) = xs.getLast? := by
  unfold atI ixN
  cases xs with
  | nil => rfl
  | cons x xs =>
    rw [if_neg (by omega), if_pos (by simp; omega), List.getLast?_eq_getElem?]
    show (x :: xs)[((-1 : Int) + ((x :: xs).length : Int)).toNat]? = _
    congr 1
    simp
    omega
@[simp] theorem atI_zero {α : Type} (xs : List α) : atI xs (0 : Int) = xs[(0 : Nat)]? := atI_nn xs 0
@[simp] theorem atI_one {α : Type} (xs : List α) : atI xs (1 : Int) = xs[(1 : Nat)]? := atI_nn xs 1
theorem ixN_nn (n : Nat) (i : Nat) : ixN n (i : Int) = if i < n then some i else none := by
  unfold ixN
  rw [if_pos (by omega)]
  by_cases h : i < n
  · rw [if_pos (by omega), if_pos h]; simp
  · rw [if_neg (by omega), if_neg h]
@[simp] theorem ixN_2 (n : Nat) : ixN n (2 : Int) = if 2 < n then some 2 else none := ixN_nn n 2
@[simp] theorem ixN_3 (n : Nat) : ixN n (3 : Int) = if 3 < n then some 3 else none := ixN_nn n 3
@[simp] theorem ixN_4 (n : Nat) : ixN n (4 : Int) = if 4 < n then some 4 else none := ixN_nn n 4
@[simp] theorem ixN_5 (n : Nat) : ixN n (5 : Int) = if 5 < n then some 5 else none := ixN_nn n 5
@[simp] theorem ixN_6 (n : Nat) : ixN n (6 : Int) = if 6 < n then some 6 else none := ixN_nn n 6
@[simp] theorem ixN_7 (n : Nat) : ixN n (7 : Int) = if 7 < n then some 7 else none := ixN_nn n 7
@[simp] theorem ixN_8 (n : Nat) : ixN n (8 : Int) = if 8 < n then some 8 else none := ixN_nn n 8
@[simp] theorem ixN_zero (n : Nat) : ixN n (0 : Int) = if 0 < n then some 0 else none := ixN_nn n 0
@[simp] theorem ixN_one (n : Nat) : ixN n (1 : Int) = if 1 < n then some 1 else none := ixN_nn n 1
@[simp] theorem finOf_zero (kp : Nat → Bool) (S : SS) (i : Nat) : finOf kp S i 0 = [] := (rfl)
@[simp] theorem finOf_succ (kp : Nat → Bool) (S : SS) (i n : Nat) : finOf kp S i (n + 1) = (if kp i then S.at i else none) :: finOf kp S (i + 1) n := (rfl)
@[simp] theorem kpl_zero (b : Bool) (l : List Bool) : kpl (b :: l) 0 = b := (rfl)
@[simp] theorem kpl_succ (b : Bool) (l : List Bool) (i : Nat) : kpl (b :: l) (i + 1) = kpl l i := (rfl)
@[simp] theorem run_ap (np nl : Nat) (kp : Nat → Bool) (body : FS) (ms : List M) : runFn np nl kp body ms = if ms.length = np then (match body (ms.map some ++ List.replicate (nl - np) none) with
  | .ok (.rt m) S => .ok m (finOf kp S 0 np)
  | .ok .nx S => .ok (.d .non) (finOf kp S 0 np)
  | .ex x S => .ex x (finOf kp S 0 np)
  | _ => .no) else .no := (rfl)
theorem mulOk_r {i j : Int} (h : -18446744073709551616 < j ∧ j < 18446744073709551616) : mulOk i j = true := by unfold mulOk; simp; omega
theorem mulOk_l {i j : Int} (h : -18446744073709551616 < i ∧ i < 18446744073709551616) : mulOk i j = true := by unfold mulOk; simp; omega
theorem mulOk_modl {x j k : Int} (h : 0 < k ∧ k < 18446744073709551616) : mulOk (x % k) j = true := mulOk_l (by have := Int.emod_nonneg x (show k ≠ 0 by omega); have := Int.emod_lt_of_pos x h.1; omega)
theorem divOk_of {j : Int} (h0 : 0 < j) (h : j < 340282366920938463463374607431768211456) : divOk j = true := by unfold divOk; simp; omega
/-! ### comprehensions -/
theorem lcL_map {own : List Nat} {g : FG} {t : FB} {fe : FE} (p : D → Bool) (f : D → D) (S0 : SS) : ∀ (ds : List D) (S : SS) (acc : List D), wipeS S own = S0 →
    (∀ d ∈ ds, ∃ S1 S2, g d S0 = some S1 ∧ t S1 = .ok (p d) S2 ∧ (p d = false → wipeS S2 own = S0) ∧ (p d = true → ∃ o S3 S4, fe S2 = .ok o S3 ∧ force o S3 = some (f d, S4) ∧ wipeS S4 own = S0)) →
    acc.length + ds.length ≤ line → ∃ S', lcL own g t fe ds S acc = .ok (acc ++ (ds.filter p).map f) S' ∧ wipeS S' own = S0
  | [], S, acc, hS, _, _ => ⟨S, by simp [lcL], hS⟩
  | d :: ds, S, acc, hS, h, hl => by
    obtain ⟨S1, S2, h1, h2, h3, h4⟩ := h d (List.mem_cons_self ..)
    have hr := fun x hx => h x (List.mem_cons_of_mem _ hx)
    simp only [List.length_cons] at hl
    show ∃ S', (match g d (wipeS S own) with
      | none => R.no
      | some S1 => (t S1).bind fun b S2 => if b = true then (fe S2).bind fun o S3 => (match force o S3 with
          | some (x, S4) => if acc.length < line then lcL own g t fe ds S4 (acc ++ [x]) else .no
          | none => .no) else lcL own g t fe ds S2 acc) = _ ∧ wipeS S' own = S0
    rw [hS, h1]
    dsimp only
    rw [h2, bind_ok]
    cases hp : p d with
    | false =>
      rw [if_neg (by decide), List.filter_cons_of_neg (by rw [hp]; decide)]
      exact lcL_map p f S0 ds S2 acc (h3 hp) hr (by omega)
    | true =>
      obtain ⟨o, S3, S4, h5, h6, h7⟩ := h4 hp
      rw [if_pos rfl, h5, bind_ok, h6]
      dsimp only
      rw [if_pos (by omega), List.filter_cons_of_pos hp, List.map_cons]
      obtain ⟨S', e1, e2⟩ := lcL_map p f S0 ds S4 (acc ++ [f d]) h7 hr (by simp; omega)
      exact ⟨S', by rw [e1]; simp, e2⟩
theorem restS_wipe (S1 S2 : SS) : ∀ vs : List Nat, restS S1 (wipeS S2 vs) vs = restS S1 S2 vs := by
  intro vs
  have key : ∀ (vs : List Nat) (S S' : SS), S.length = S'.length → (∀ j, j ∉ vs → S[j]? = S'[j]?) → restS S1 S vs = restS S1 S' vs := by
    intro vs
    induction vs with
    | nil =>
      intro S S' _ h
      exact List.ext_getElem? fun j => h j (by simp)
    | cons v vs ih =>
      intro S S' hl h
      show (restS S1 S vs).set v _ = (restS S1 S' vs).set v _
      have e1 : ∀ (T : SS), (restS S1 T vs).set v (keepD (S1.at v)) = (restS S1 (T.set v none) vs).set v (keepD (S1.at v)) := by
        intro T
        apply List.ext_getElem?
        intro j
        by_cases hj : v = j
        · subst hj
          by_cases hlt : v < T.length
          · rw [List.getElem?_set_self (by rw [restS_len]; exact hlt), List.getElem?_set_self (by rw [restS_len, List.length_set]; exact hlt)]
          · rw [List.getElem?_eq_none (by rw [List.length_set, restS_len]; omega), List.getElem?_eq_none (by rw [List.length_set, restS_len, List.length_set]; omega)]
        · rw [List.getElem?_set_ne hj, List.getElem?_set_ne hj]
          have : ∀ (vs : List Nat) (T T' : SS), T.length = T'.length → T[j]? = T'[j]? → (restS S1 T vs)[j]? = (restS S1 T' vs)[j]? := by
            intro vs
            induction vs with
            | nil => intro T T' _ h; exact h
            | cons u vs ih2 =>
              intro T T' hl h
              show ((restS S1 T vs).set u _)[j]? = ((restS S1 T' vs).set u _)[j]?
              by_cases hu : u = j
              · subst hu
                by_cases hlt : u < T.length
                · rw [List.getElem?_set_self (by rw [restS_len]; exact hlt), List.getElem?_set_self (by rw [restS_len]; omega)]
                · rw [List.getElem?_eq_none (by rw [List.length_set, restS_len]; omega), List.getElem?_eq_none (by rw [List.length_set, restS_len]; omega)]
              · rw [List.getElem?_set_ne hu, List.getElem?_set_ne hu]
                exact ih2 T T' hl h
          exact this vs _ _ (by simp) (by rw [List.getElem?_set_ne hj])
      rw [e1 S, e1 S', ih (S.set v none) (S'.set v none) (by simp [hl]) (fun j hj => by
        by_cases hv : v = j
        · subst hv
          by_cases hlt : v < S.length
          · rw [List.getElem?_set_self hlt, List.getElem?_set_self (by omega)]
          · rw [List.getElem?_eq_none (by simp; omega), List.getElem?_eq_none (by simp; omega)]
        · rw [List.getElem?_set_ne hv, List.getElem?_set_ne hv]
          exact h j (by simp only [List.mem_cons, not_or]; exact ⟨fun e => hv e.symm, hj⟩))]
  refine key vs _ _ (wipeS_len _ _) fun j hj => ?_
  have : ∀ vs : List Nat, j ∉ vs → (wipeS S2 vs)[j]? = S2[j]? := by
    intro vs
    induction vs with
    | nil => intro _; rfl
    | cons v vs ih =>
      intro hj
      simp only [List.mem_cons, not_or] at hj
      show ((wipeS S2 vs).set v none)[j]? = _
      rw [List.getElem?_set_ne (fun e => hj.1 e.symm), ih hj.2]
  exact this vs hj
/-- a comprehension that leaves all else as it is -/
theorem mLc_map {own : List Nat} {fi : FI} {g : FG} {t : FB} {fe : FE} {S S1 : SS} {ds : List D} (p : D → Bool) (f : D → D) (h : fi S = .ok ds S1)
    (ht : ∀ d ∈ ds, ∃ S2 S3, g d (wipeS S1 own) = some S2 ∧ t S2 = .ok (p d) S3 ∧ (p d = false → wipeS S3 own = wipeS S1 own) ∧ (p d = true → ∃ o S4 S5, fe S3 = .ok o S4 ∧ force o S4 = some (f d, S5) ∧ wipeS S5 own = wipeS S1 own))
    (hl : ds.length ≤ line) : mLc own fi g t fe S = .ok (.lst ((ds.filter p).map f)) (restS S1 S1 own) := by
  unfold mLc
  rw [h, bind_ok]
  obtain ⟨S', e1, e2⟩ := lcL_map p f (wipeS S1 own) ds S1 [] rfl ht (by simpa using hl)
  rw [e1, bind_ok, List.nil_append]
  rw [← restS_wipe S1 S', e2, restS_wipe]

/-! ### numbers -/
theorem fmod_pos {a b : Int} (h : 0 < b) : a.fmod b = a % b := Int.fmod_eq_emod_of_nonneg a (by omega)
theorem fdiv_pos {a b : Int} (h : 0 < b) : a.fdiv b = a / b := Int.fdiv_eq_ediv_of_nonneg a (by omega)
theorem atI_ok {α : Type} {xs : List α} {i : Int} {x : α} (h0 : 0 ≤ i) (h : xs[i.toNat]? = some x) : atI xs i = some x := by
  have hl := (List.getElem?_eq_some_iff.mp h).1
  unfold atI ixN
  rw [if_pos h0, if_pos (by omega)]
  exact h

@[simp] theorem eqD_ap (a b : D) : eqD a b = if eqOk a b = true then some (.d (.bl (D.eqb a b))) else none := (rfl)
@[simp] theorem neD_ap (a b : D) : neD a b = if eqOk a b = true then some (.d (.bl (!D.eqb a b))) else neD2 a b := (rfl)
@[simp] theorem neD2_c (x : D) (xs : List D) : neD2 (.lst (x :: xs)) (.lst []) = some (.d (.bl true)) := (rfl)
@[simp] theorem eqOk_ap (a b : D) : eqOk a b = (a.pl && b.pl && decide (min a.dep b.dep ≤ 190)) := (rfl)
@[simp] theorem pl_non : D.pl .non = true := (rfl)
@[simp] theorem pl_bl (b : Bool) : D.pl (.bl b) = true := (rfl)
@[simp] theorem pl_int (b : Int) : D.pl (.int b) = true := (rfl)
@[simp] theorem pl_str (b : Str) : D.pl (.str b) = true := (rfl)
@[simp] theorem pl_tup (b : List D) : D.pl (.tup b) = D.pls b := (rfl)
@[simp] theorem pl_lst (b : List D) : D.pl (.lst b) = D.pls b := (rfl)
@[simp] theorem pls_nil : D.pls [] = true := (rfl)
@[simp] theorem pls_cons (x : D) (xs : List D) : D.pls (x :: xs) = (D.pl x && D.pls xs) := (rfl)
@[simp] theorem dep_non : D.dep .non = 0 := (rfl)
@[simp] theorem dep_bl (b : Bool) : D.dep (.bl b) = 0 := (rfl)
@[simp] theorem dep_int (b : Int) : D.dep (.int b) = 0 := (rfl)
@[simp] theorem dep_str (b : Str) : D.dep (.str b) = 0 := (rfl)
@[simp] theorem dep_tup (b : List D) : D.dep (.tup b) = D.deps b + 1 := (rfl)
@[simp] theorem dep_lst (b : List D) : D.dep (.lst b) = D.deps b + 1 := (rfl)
@[simp] theorem deps_nil : D.deps [] = 0 := (rfl)
@[simp] theorem deps_cons (x : D) (xs : List D) : D.deps (x :: xs) = max (D.dep x) (D.deps xs) := (rfl)
@[simp] theorem eqb_ii (i j : Int) : D.eqb (.int i) (.int j) = (i == j) := (rfl)
@[simp] theorem eqb_ib (i : Int) (j : Bool) : D.eqb (.int i) (.bl j) = (i == (if j then 1 else 0)) := (rfl)
@[simp] theorem eqb_bi (i : Bool) (j : Int) : D.eqb (.bl i) (.int j) = ((if i then 1 else 0) == j) := (rfl)
@[simp] theorem eqb_bb (i j : Bool) : D.eqb (.bl i) (.bl j) = (i == j) := (rfl)
@[simp] theorem eqb_ss (i j : Str) : D.eqb (.str i) (.str j) = (i == j) := (rfl)
@[simp] theorem eqb_si (i : Str) (j : Int) : D.eqb (.str i) (.int j) = false := (rfl)
@[simp] theorem eqb_sb (i : Str) (j : Bool) : D.eqb (.str i) (.bl j) = false := (rfl)
@[simp] theorem eqb_is (i : Int) (j : Str) : D.eqb (.int i) (.str j) = false := (rfl)
@[simp] theorem eqb_tt (i j : List D) : D.eqb (.tup i) (.tup j) = D.eqbs i j := (rfl)
@[simp] theorem eqb_ll (i j : List D) : D.eqb (.lst i) (.lst j) = D.eqbs i j := (rfl)
@[simp] theorem eqb_tl (i j : List D) : D.eqb (.tup i) (.lst j) = false := (rfl)
@[simp] theorem eqb_lt (i j : List D) : D.eqb (.lst i) (.tup j) = false := (rfl)
@[simp] theorem eqb_ti (i : List D) (j : Int) : D.eqb (.tup i) (.int j) = false := (rfl)
@[simp] theorem eqb_it (i : List D) (j : Int) : D.eqb (.int j) (.tup i) = false := (rfl)
@[simp] theorem eqb_ts (i : List D) (j : Str) : D.eqb (.tup i) (.str j) = false := (rfl)
@[simp] theorem eqb_st (i : List D) (j : Str) : D.eqb (.str j) (.tup i) = false := (rfl)
@[simp] theorem eqb_nn : D.eqb .non .non = true := (rfl)
@[simp] theorem eqb_ni (j : Int) : D.eqb .non (.int j) = false := (rfl)
@[simp] theorem eqb_ns (j : Str) : D.eqb .non (.str j) = false := (rfl)
@[simp] theorem eqb_nt (j : List D) : D.eqb .non (.tup j) = false := (rfl)
@[simp] theorem eqb_in (j : Int) : D.eqb (.int j) .non = false := (rfl)
@[simp] theorem eqb_sn (j : Str) : D.eqb (.str j) .non = false := (rfl)
@[simp] theorem eqb_tn (j : List D) : D.eqb (.tup j) .non = false := (rfl)
@[simp] theorem eqbs_nn : D.eqbs [] [] = true := (rfl)
@[simp] theorem eqbs_nc (x : D) (xs : List D) : D.eqbs [] (x :: xs) = false := (rfl)
@[simp] theorem eqbs_cn (x : D) (xs : List D) : D.eqbs (x :: xs) [] = false := (rfl)
@[simp] theorem eqbs_cc (x y : D) (xs ys : List D) : D.eqbs (x :: xs) (y :: ys) = (D.eqb x y && D.eqbs xs ys) := (rfl)

/-! ### what a reckoning comes to -/
noncomputable def R.wp0 {α : Type} (r : R α) (Q : α → SS → Prop) : Prop := match r with
  | .ok a S => Q a S
  | _ => False
noncomputable def CR.wp0 (r : CR) (Q : M → List (Option M) → Prop) : Prop := match r with
  | .ok a S => Q a S
  | _ => False
@[irreducible] noncomputable def R.wp {α : Type} (r : R α) (Q : α → SS → Prop) (_ : Ph Q := ⟨⟩) : Prop := R.wp0 r Q
@[irreducible] noncomputable def CR.wp (r : CR) (Q : M → List (Option M) → Prop) (_ : Ph Q := ⟨⟩) : Prop := CR.wp0 r Q
theorem R.wp_eq {α : Type} (r : R α) (Q : α → SS → Prop) (p : Ph Q) : R.wp r Q p = R.wp0 r Q := by unfold R.wp; rfl
theorem CR.wp_eq (r : CR) (Q : M → List (Option M) → Prop) (p : Ph Q) : CR.wp r Q p = CR.wp0 r Q := by unfold CR.wp; rfl
@[simp] theorem wp_ok {α : Type} (a : α) (S : SS) (Q : α → SS → Prop) : R.wp (.ok a S) Q = Q a S := by rw [R.wp_eq]; rfl
@[simp] theorem wp_no {α : Type} (Q : α → SS → Prop) : R.wp .no Q = False := by rw [R.wp_eq]; rfl
@[simp] theorem wp_ex {α : Type} (x : Exn) (S : SS) (Q : α → SS → Prop) : R.wp (.ex x S) Q = False := by rw [R.wp_eq]; rfl
@[simp] theorem cwp_ok (a : M) (S : List (Option M)) (Q : M → List (Option M) → Prop) : CR.wp (.ok a S) Q = Q a S := by rw [CR.wp_eq]; rfl
@[simp] theorem cwp_no (Q : M → List (Option M) → Prop) : CR.wp .no Q = False := by rw [CR.wp_eq]; rfl
@[simp] theorem cwp_ex (x : Exn) (S : List (Option M)) (Q : M → List (Option M) → Prop) : CR.wp (.ex x S) Q = False := by rw [CR.wp_eq]; rfl
@[simp] theorem wp_bind {α β : Type} (r : R α) (f : α → SS → R β) (Q : β → SS → Prop) : R.wp (r.bind f) Q = R.wp r (fun a S => R.wp (f a S) Q) := by
  cases r with
  | ok a S => rw [bind_ok, wp_ok]
  | ex _ _ => rw [bind_ex, wp_ex, wp_ex]
  | no => rw [bind_no, wp_no, wp_no]
theorem R.wp_mono {α : Type} {r : R α} {Q Q' : α → SS → Prop} (h : r.wp Q) (k : ∀ a S, Q a S → Q' a S) : r.wp Q' := by
  rw [R.wp_eq] at h ⊢
  cases r with
  | ok a S => exact k _ _ h
  | ex _ _ => exact h
  | no => exact h
theorem CR.wp_mono {r : CR} {Q Q' : M → List (Option M) → Prop} (h : r.wp Q) (k : ∀ a S, Q a S → Q' a S) : r.wp Q' := by
  rw [CR.wp_eq] at h ⊢
  cases r with
  | ok a S => exact k _ _ h
  | ex _ _ => exact h
  | no => exact h
theorem CR.wp_ok {r : CR} {Q : M → List (Option M) → Prop} (h : r.wp Q) : ∃ a S, r = .ok a S ∧ Q a S := by
  rw [CR.wp_eq] at h
  cases r with
  | ok a S => exact ⟨_, _, rfl, h⟩
  | ex _ _ => exact h.elim
  | no => exact h.elim
theorem R.wp_ok' {α : Type} {r : R α} {Q : α → SS → Prop} (h : r.wp Q) : ∃ a S, r = .ok a S ∧ Q a S := by
  rw [R.wp_eq] at h
  cases r with
  | ok a S => exact ⟨_, _, rfl, h⟩
  | ex _ _ => exact h.elim
  | no => exact h.elim
theorem CR.wp_of {r : CR} {Q : M → List (Option M) → Prop} {a : M} {S : List (Option M)} (e : r = .ok a S) (h : Q a S) : r.wp Q := by rw [e, cwp_ok]; exact h
theorem R.wp_of {α : Type} {r : R α} {Q : α → SS → Prop} {a : α} {S : SS} (e : r = .ok a S) (h : Q a S) : r.wp Q := by rw [e, Ev.wp_ok]; exact h
noncomputable def CR.toR (c : CR) (h : List (Option M) → SS) (_ : Ph h := ⟨⟩) : R M := match c with
  | .ok r fin => .ok r (h fin)
  | .ex x fin => .ex x (h fin)
  | .no => .no
@[simp] theorem toR_ok (a : M) (S : List (Option M)) (h : List (Option M) → SS) : CR.toR (.ok a S) h = .ok a (h S) := (rfl)
@[simp] theorem toR_no (h : List (Option M) → SS) : CR.toR .no h = .no := (rfl)
@[simp] theorem wp_toR (c : CR) (h : List (Option M) → SS) (Q : M → SS → Prop) : R.wp (c.toR h) Q = c.wp (fun r fin => Q r (h fin)) := by rw [R.wp_eq, CR.wp_eq]; cases c <;> rfl
@[simp] theorem bind_toR {β : Type} (c : CR) (h : List (Option M) → SS) (f : M → SS → R β) (Q : β → SS → Prop) : R.wp ((c.toR h).bind f) Q = c.wp (fun r fin => R.wp (f r (h fin)) Q) := by rw [wp_bind, wp_toR]
@[simp] theorem mCall_ap (g : List M → CR) (fas : FA) (S : SS) : mCall g fas S = (fas S).bind fun os S1 => match lend os S1 with
  | some (ms, S2) => (g ms).toR fun fin => back os ms fin S2
  | none => .no := (rfl)
/-- what a body's end is to its caller -/
noncomputable def endQ (np : Nat) (kp : Nat → Bool) (Q : M → List (Option M) → Prop) : Fl → SS → Prop := fun fl S => match fl with
  | .rt m => Q m (finOf kp S 0 np)
  | .nx => Q (.d .non) (finOf kp S 0 np)
  | _ => False
@[simp] theorem endQ_rt (np : Nat) (kp : Nat → Bool) (Q : M → List (Option M) → Prop) (m : M) (S : SS) : endQ np kp Q (.rt m) S = Q m (finOf kp S 0 np) := (rfl)
@[simp] theorem endQ_nx (np : Nat) (kp : Nat → Bool) (Q : M → List (Option M) → Prop) (S : SS) : endQ np kp Q .nx S = Q (.d .non) (finOf kp S 0 np) := (rfl)
theorem run_wp {np nl : Nat} {kp : Nat → Bool} {body : FS} {ms : List M} {Q : M → List (Option M) → Prop} (hl : ms.length = np) (h : (body (ms.map some ++ List.replicate (nl - np) none)).wp (endQ np kp Q)) : (runFn np nl kp body ms).wp Q := by
  rw [run_ap, if_pos hl]
  obtain ⟨fl, S, e, h⟩ := R.wp_ok' h
  rw [e]
  cases fl with
  | rt m => rw [CR.wp_eq]; exact h
  | nx => rw [CR.wp_eq]; exact h
  | bk => exact h.elim
  | ct => exact h.elim
/-- a walk, by what holds with what is left -/
theorem wp_forL {g : FG} {b : FS} {Q : Fl → SS → Prop} (I : List D → SS → Prop) (h0 : ∀ S, I [] S → Q .nx S)
    (h : ∀ d ds S, I (d :: ds) S → ∃ S1, g d S = some S1 ∧ (b S1).wp fun fl S2 => match fl with | .nx => I ds S2 | .ct => I ds S2 | .bk => Q .nx S2 | .rt m => Q (.rt m) S2) :
    ∀ (ds : List D) (S : SS), I ds S → (forL g b ds S).wp Q
  | [], S, hI => R.wp_of rfl (h0 S hI)
  | d :: ds, S, hI => by
    obtain ⟨S1, e1, h1⟩ := h d ds S hI
    rw [forL_cons, e1]
    dsimp only
    rw [wp_bind]
    refine R.wp_mono h1 fun fl S2 h2 => ?_
    cases fl with
    | nx => exact wp_forL I h0 h ds S2 h2
    | ct => exact wp_forL I h0 h ds S2 h2
    | bk => exact R.wp_of rfl h2
    | rt m => exact R.wp_of rfl h2
/-- a walk of which each round goes on -/
theorem wp_for1 {g : FG} {b : FS} {Q : Fl → SS → Prop} (P : D → Prop) (I : SS → Prop) {ds : List D} {S : SS} (hP : ∀ d ∈ ds, P d) (hI : I S)
    (h : ∀ d S, P d → I S → ∃ S1, g d S = some S1 ∧ (b S1).wp fun fl S2 => match fl with | .nx => I S2 | .ct => I S2 | .bk => Q .nx S2 | .rt m => Q (.rt m) S2) (h0 : ∀ S, I S → Q .nx S) : (forL g b ds S).wp Q :=
  wp_forL (fun ds S => (∀ d ∈ ds, P d) ∧ I S) (fun S hS => h0 S hS.2) (fun d ds S hS => by
    obtain ⟨S1, e1, h1⟩ := h d S (hS.1 d (List.mem_cons_self ..)) hS.2
    refine ⟨S1, e1, R.wp_mono h1 fun fl S2 h2 => ?_⟩
    cases fl with
    | nx => exact ⟨fun x hx => hS.1 x (List.mem_cons_of_mem _ hx), h2⟩
    | ct => exact ⟨fun x hx => hS.1 x (List.mem_cons_of_mem _ hx), h2⟩
    | bk => exact h2
    | rt m => exact h2) ds S ⟨hP, hI⟩
theorem rangeD_mem (n : Nat) (i : Int) (d : D) (h : d ∈ rangeD i n) : ∃ k : Int, d = .int k ∧ i ≤ k ∧ k < i + n := by
  unfold rangeD at h
  simp only [List.mem_map, List.mem_range] at h
  obtain ⟨k, hk, e⟩ := h
  exact ⟨_, e.symm, by omega, by omega⟩

noncomputable def b__law_bag (call : Str → List M → CR) : FS :=
  (sRet (mLst (aCons (eC (.int 0)) (aCons (eC (.int 1234567891)) (aCons (eC (.int 0)) (aCons (eM (mLc [1] (iSeq (eM (mSl (eN 0) pNo (pIx (eC (.int 63)))))) (gN 1) tTrue (eM (mBlt (on1 absD) (aCons (eN 1) aNil))))) aNil))))))
noncomputable def g__law_bag (call : Str → List M → CR) : List M → CR := runFn 1 2 (kpl [true]) (b__law_bag call)
noncomputable def b__law_take (call : Str → List M → CR) : FS :=
  (sSeq (sIf (tM (mBin eqD (eM (mBin ixD (eN 0) (eC (.int 0)))) (eC (.int 0))))
    (sSeq (sSet 4 (mE (eC (.int 0))))
  (sSeq (sIf (tM (mBin ltD (eM (mBin ixD (eN 0) (eC (.int 2)))) (eM (mBlt (on1 lenD) (aCons (eM (mBin ixD (eN 0) (eC (.int 3)))) aNil)))))
    (sSet 4 (mBin ixD (eM (mBin ixD (eN 0) (eC (.int 3)))) (eM (mBin ixD (eN 0) (eC (.int 2))))))
    sNil)
  (sSeq (sAugIx 0 iaddD (eC (.int 2)) (eC (.int 1)))
  (sSeq (sIf (tM (mBin geD (eN 4) (eC (.int 1000000000000000000))))
    (sSetIx 0 (eN 4) (eC (.int 0)))
    sNil)
  (sSetIx 0 (eM (mBin modD (eM (mBin addD (eM (mBin addD (eM (mBin mulD (eM (mBin ixD (eN 0) (eC (.int 1)))) (eC (.int 48271)))) (eM (mBin modD (eN 4) (eC (.int 2147483647)))))) (eM (mBin mulD (eC (.int 7919)) (eM (mBin ixD (eN 0) (eC (.int 2)))))))) (eC (.int 2147483647)))) (eC (.int 1)))))))
    sNil)
  (sSeq (sIf (tM (mBin gtD (eM (mBin ixD (eN 0) (eC (.int 0)))) (eC (.int 0))))
    (sSeq (sSet 5 (mBin modD (eM (mBin ixD (eN 0) (eC (.int 0)))) (eN 1)))
  (sSeq (sSetIx 0 (eM (mBin fdivD (eM (mBin ixD (eN 0) (eC (.int 0)))) (eN 1))) (eC (.int 0)))
  (sRetV 5)))
    sNil)
  (sSeq (sSet 2 (mBin modD (eM (mBin mulD (eM (mBin addD (eM (mBin ixD (eN 0) (eC (.int 1)))) (eC (.int 1)))) (eC (.int 39373)))) (eC (.int 1000000007))))
  (sSeq (sSet 3 (mBin modD (eM (mBin mulD (eM (mBin modD (eM (mBin mulD (eN 2) (eN 2))) (eC (.int 998244353)))) (eC (.int 30011)))) (eC (.int 998244353))))
  (sSeq (sIf (tM (mBin gtD (eN 1) (eC (.int 1000000))))
    (sRet (mBin modD (eM (mBin addD (eM (mBin mulD (eN 3) (eC (.int 1000000007)))) (eN 2))) (eN 1)))
    sNil)
  (sRet (mBin modD (eM (mBin fdivD (eN 3) (eC (.int 7)))) (eN 1))))))))
noncomputable def g__law_take (call : Str → List M → CR) : List M → CR := runFn 2 6 (kpl [true, true]) (b__law_take call)
/-- the drawer of a law's numbers -/
structure Bag where
  a : Int
  b : Int
  c : Int
  xs : List Int
structure Bag.Ok (g : Bag) : Prop where
  a0 : 0 ≤ g.a
  b0 : 0 ≤ g.b
  b1 : g.b < 2147483647
  c0 : 0 ≤ g.c
  xn : ∀ x ∈ g.xs, 0 ≤ x
noncomputable def Bag.enc (g : Bag) : M := .lst [.int g.a, .int g.b, .int g.c, .lst (g.xs.map .int)]
theorem bag_eq (call : Str → List M → CR) (ns : List Int) (hn : ns.length ≤ 63) : ∃ g : Bag, g.Ok ∧ g__law_bag call [.d (scrD ns)] = .ok g.enc [some (.d (scrD ns))] := by
  refine ⟨⟨0, 1234567891, 0, (ns.take 63).map fun i => if i < 0 then -i else i⟩, ⟨Int.le_refl 0, by show (0 : Int) ≤ 1234567891; decide, by show (1234567891 : Int) < 2147483647; decide, Int.le_refl 0, ?_⟩, ?_⟩
  · intro x hx
    simp only [List.mem_map] at hx
    obtain ⟨y, _, rfl⟩ := hx
    split <;> omega
  · have hcut : cutD (ns.map D.int) none (some 63) = (ns.take 63).map D.int := by
      unfold cutD HT.sIx
      simp
    have e1 : (iSeq (eM (mSl (eN 0) pNo (pIx (eC (.int 63)))))) [some (.d (scrD ns)), none] = .ok ((ns.take 63).map D.int) [some (.d (scrD ns)), none] := by
      simp [iSeq, eM, mSl, eN, pNo, pIx, eC, scrD, sliceD, hcut, force]
    have e2 := mLc_map (own := [1]) (g := gN 1) (t := tTrue) (fe := eM (mBlt (on1 absD) (aCons (eN 1) aNil))) (fun _ => true) (fun d => match d with | .int i => .int (if i < 0 then -i else i) | d => d) e1 (by
      intro d hd
      simp only [List.mem_map] at hd
      obtain ⟨i, _, rfl⟩ := hd
      exact ⟨_, _, rfl, rfl, (fun h => by cases h), (fun _ => ⟨_, _, _, rfl, rfl, rfl⟩)⟩) (by simp [line]; omega)
    have e3 : (fun d => match d with | D.int i => D.int (if i < 0 then -i else i) | d => d) ∘ D.int = D.int ∘ fun i => if i < 0 then -i else i := rfl
    rw [show (fun _ : D => true) = fun _ => true from rfl, List.filter_eq_self.mpr (fun _ _ => rfl), List.map_map, e3, ← List.map_map] at e2
    unfold g__law_bag b__law_bag
    simp -dsimp [List.replicate, e2, Bag.enc, restS, wipeS, keepD]
/-- a cell is drawn when the drawer is empty -/
noncomputable def Bag.cell (g : Bag) : Int := if g.c < g.xs.length then g.xs.getD g.c.toNat 0 else 0
noncomputable def Bag.fill (g : Bag) : Bag := if g.a = 0 then ⟨if 1000000000000000000 ≤ g.cell then g.cell else 0, (g.b * 48271 + g.cell % 2147483647 + 7919 * (g.c + 1)) % 2147483647, g.c + 1, g.xs⟩ else g
noncomputable def Bag.fst (g : Bag) : Int := (g.b + 1) * 39373 % 1000000007
noncomputable def Bag.snd (g : Bag) : Int := g.fst * g.fst % 998244353 * 30011 % 998244353
noncomputable def Bag.val (g : Bag) (m : Int) : Int := if 0 < g.a then g.a % m else if 1000000 < m then (g.snd * 1000000007 + g.fst) % m else g.snd / 7 % m
noncomputable def Bag.left (g : Bag) (m : Int) : Bag := if 0 < g.a then { g with a := g.a / m } else g
theorem Bag.fill_ok {g : Bag} (h : g.Ok) : g.fill.Ok := by
  obtain ⟨a, b, c, xs⟩ := g
  obtain ⟨ha, hb, hb1, hc, hx⟩ := h
  dsimp only at ha hb hb1 hc hx
  unfold Bag.fill
  split
  · refine ⟨?_, ?_, ?_, ?_, hx⟩
    · dsimp only; split <;> omega
    · dsimp only; omega
    · dsimp only; omega
    · dsimp only; omega
  · exact ⟨ha, hb, hb1, hc, hx⟩
theorem Bag.left_ok {g : Bag} {m : Int} (h : g.Ok) (hm : 0 < m) : (g.left m).Ok := by
  unfold Bag.left
  split
  · exact ⟨Int.ediv_nonneg h.a0 (by omega), h.b0, h.b1, h.c0, h.xn⟩
  · exact h
theorem Bag.val_rng {g : Bag} {m : Int} (hm : 0 < m) : 0 ≤ g.val m ∧ g.val m < m := by
  have k : ∀ x : Int, 0 ≤ x % m ∧ x % m < m := fun x => ⟨Int.emod_nonneg x (by omega), Int.emod_lt_of_pos x hm⟩
  unfold Bag.val
  split
  · exact k _
  · split <;> exact k _
theorem take_eq (call : Str → List M → CR) (g : Bag) (m : Int) (hg : g.Ok) (h0 : 0 < m) (h1 : m < 340282366920938463463374607431768211456) :
    g__law_take call [g.enc, .d (.int m)] = .ok (.d (.int (g.fill.val m))) [some (g.fill.left m).enc, some (.d (.int m))] := by
  obtain ⟨a, b, c, xs⟩ := g
  obtain ⟨ha, hb, hb1, hc, hx⟩ := hg
  dsimp only at ha hb hb1 hc hx
  have hm : m ≠ 0 := by omega
  have hdm : divOk m = true := divOk_of h0 h1
  have hd7 : divOk 7 = true := by decide
  unfold g__law_take
  by_cases ha0 : a = 0
  · subst ha0
    have hcell : 0 ≤ (Bag.mk 0 b c xs).cell := by
      unfold Bag.cell
      dsimp only
      split
      · rename_i hl
        rw [List.getD_eq_getElem?_getD]
        cases e : xs[c.toNat]? with
        | none => simp
        | some y => simp; exact hx y (List.mem_of_getElem? e)
      · omega
    have hk : ∀ k : Int, 0 < k → k ≠ 0 := fun k h => by omega
    by_cases hcl : c < xs.length
    · have hat : atI (xs.map D.int) c = some (.int (Bag.mk 0 b c xs).cell) := by
        refine atI_ok hc ?_
        unfold Bag.cell
        dsimp only
        rw [if_pos hcl, List.getElem?_map, List.getD_eq_getElem?_getD]
        have : c.toNat < xs.length := by omega
        rw [List.getElem?_eq_getElem this]
        rfl
      by_cases hbig : 1000000000000000000 ≤ (Bag.mk 0 b c xs).cell
      · have hpos : 0 < (Bag.mk 0 b c xs).cell := by omega
        simp -dsimp [List.replicate, b__law_take, Bag.enc, Bag.fill, Bag.val, Bag.left, hm, hdm, fmod_pos h0, fdiv_pos h0, hcl, hat, hbig, hpos, fmod_pos (show (0 : Int) < 2147483647 by decide), mulOk_r, mulOk_l]
      · have hz : Bag.cell ⟨0, b, c, xs⟩ = Bag.cell ⟨0, b, c, xs⟩ := rfl
        by_cases hbm : 1000000 < m
        · simp -dsimp [List.replicate, b__law_take, Bag.enc, Bag.fill, Bag.val, Bag.left, Bag.fst, Bag.snd, hm, hdm, hd7, fmod_pos h0, fdiv_pos h0, hcl, hat, hbig, fmod_pos (show (0 : Int) < 2147483647 by decide), fmod_pos (show (0 : Int) < 1000000007 by decide), fmod_pos (show (0 : Int) < 998244353 by decide), fdiv_pos (show (0 : Int) < 7 by decide), mulOk_r, mulOk_l, mulOk_modl, hbm]
        · simp -dsimp [List.replicate, b__law_take, Bag.enc, Bag.fill, Bag.val, Bag.left, Bag.fst, Bag.snd, hm, hdm, hd7, fmod_pos h0, fdiv_pos h0, hcl, hat, hbig, fmod_pos (show (0 : Int) < 2147483647 by decide), fmod_pos (show (0 : Int) < 1000000007 by decide), fmod_pos (show (0 : Int) < 998244353 by decide), fdiv_pos (show (0 : Int) < 7 by decide), mulOk_r, mulOk_l, mulOk_modl, hbm]
    · have hz : Bag.cell ⟨0, b, c, xs⟩ = 0 := by unfold Bag.cell; dsimp only; rw [if_neg hcl]
      by_cases hbm : 1000000 < m
      · simp -dsimp [List.replicate, b__law_take, Bag.enc, Bag.fill, Bag.val, Bag.left, Bag.fst, Bag.snd, hm, hdm, hd7, fmod_pos h0, fdiv_pos h0, hcl, hz, fmod_pos (show (0 : Int) < 2147483647 by decide), fmod_pos (show (0 : Int) < 1000000007 by decide), fmod_pos (show (0 : Int) < 998244353 by decide), fdiv_pos (show (0 : Int) < 7 by decide), mulOk_r, mulOk_l, mulOk_modl, hbm]
      · simp -dsimp [List.replicate, b__law_take, Bag.enc, Bag.fill, Bag.val, Bag.left, Bag.fst, Bag.snd, hm, hdm, hd7, fmod_pos h0, fdiv_pos h0, hcl, hz, fmod_pos (show (0 : Int) < 2147483647 by decide), fmod_pos (show (0 : Int) < 1000000007 by decide), fmod_pos (show (0 : Int) < 998244353 by decide), fdiv_pos (show (0 : Int) < 7 by decide), mulOk_r, mulOk_l, mulOk_modl, hbm]
  · have h : 0 < a := by omega
    simp -dsimp [List.replicate, b__law_take, Bag.enc, Bag.fill, Bag.val, Bag.left, ha0, h, hm, hdm, fmod_pos h0, fdiv_pos h0]
@[simp] theorem own_enc (g : Bag) : M.own g.enc = true := rfl
/-- what a draw gives -/
theorem take_wp (call : Str → List M → CR) (g : Bag) (m : Int) (hg : g.Ok) (h0 : 0 < m) (h1 : m < 340282366920938463463374607431768211456) {Q : M → List (Option M) → Prop}
    (h : ∀ (v : Int) (g' : Bag), 0 ≤ v → v < m → g'.Ok → Q (.d (.int v)) [some g'.enc, some (.d (.int m))]) : (g__law_take call [g.enc, .d (.int m)]).wp Q := by
  rw [take_eq call g m hg h0 h1, cwp_ok]
  have v := Bag.val_rng (g := g.fill) h0
  exact h _ _ v.1 v.2 (Bag.left_ok (Bag.fill_ok hg) h0)

theorem wp_lcL {own : List Nat} {g : FG} {t : FB} {fe : FE} {Q : List D → SS → Prop} (I : List D → List D → SS → Prop) (h0 : ∀ acc S, I [] acc S → Q acc S)
    (h : ∀ d ds acc S, I (d :: ds) acc S → ∃ S1, g d (wipeS S own) = some S1 ∧ (t S1).wp fun b S2 => (b = true → (fe S2).wp fun o S3 => ∃ x S4, force o S3 = some (x, S4) ∧ acc.length < line ∧ I ds (acc ++ [x]) S4) ∧ (b = false → I ds acc S2)) :
    ∀ (ds : List D) (S : SS) (acc : List D), I ds acc S → (lcL own g t fe ds S acc).wp Q
  | [], S, acc, hI => R.wp_of rfl (h0 acc S hI)
  | d :: ds, S, acc, hI => by
    obtain ⟨S1, e1, h1⟩ := h d ds acc S hI
    show R.wp (match g d (wipeS S own) with
      | none => R.no
      | some S1 => (t S1).bind fun b S2 => if b = true then (fe S2).bind fun o S3 => (match force o S3 with
          | some (x, S4) => if acc.length < line then lcL own g t fe ds S4 (acc ++ [x]) else .no
          | none => .no) else lcL own g t fe ds S2 acc) Q
    rw [e1]
    dsimp only
    rw [wp_bind]
    refine R.wp_mono h1 fun b S2 h2 => ?_
    cases b with
    | false =>
      rw [if_neg (by decide)]
      exact wp_lcL I h0 h ds S2 acc (h2.2 rfl)
    | true =>
      rw [if_pos rfl, wp_bind]
      refine R.wp_mono (h2.1 rfl) fun o S3 h3 => ?_
      obtain ⟨x, S4, e3, h4, h5⟩ := h3
      rw [e3]
      dsimp only
      rw [if_pos h4]
      exact wp_lcL I h0 h ds S4 (acc ++ [x]) h5
/-- a comprehension, by what holds with what is left and what is made -/
theorem wp_lc {own : List Nat} {fi : FI} {g : FG} {t : FB} {fe : FE} {Q : M → SS → Prop} {S S1 : SS} {ds : List D} (I : List D → List D → SS → Prop) (hf : fi S = .ok ds S1) (h1 : I ds [] S1)
    (h : ∀ d ds acc S, I (d :: ds) acc S → ∃ S1, g d (wipeS S own) = some S1 ∧ (t S1).wp fun b S2 => (b = true → (fe S2).wp fun o S3 => ∃ x S4, force o S3 = some (x, S4) ∧ acc.length < line ∧ I ds (acc ++ [x]) S4) ∧ (b = false → I ds acc S2))
    (h0 : ∀ acc S, I [] acc S → Q (.lst acc) (restS S1 S own)) : (mLc own fi g t fe S).wp Q := by
  unfold mLc
  rw [hf, bind_ok, wp_bind]
  exact wp_lcL I (fun acc S hI => R.wp_of rfl (h0 acc S hI)) h ds S1 [] h1
@[simp] theorem absD_i (i : Int) : absD (.int i) = some (.d (.int (if i < 0 then -i else i))) := (rfl)
@[simp] theorem ixD_s (z : Str) (i : Int) : ixD (.str z) (.int i) = if z.length ≤ line then (atI z.cps.toList i).map fun c => .d (.str ⟨#[c]⟩) else none := (rfl)
@[simp] theorem sliceD_s (z : Str) (lo hi : Option Int) : sliceD lo hi (.str z) = if z.length ≤ line then some (.d (.str (cutS z lo hi))) else none := (rfl)
@[simp] theorem sliceD_l (z : List D) (lo hi : Option Int) : sliceD lo hi (.lst z) = some (.lst (cutD z lo hi)) := (rfl)
@[simp] theorem sliceD_t (z : List D) (lo hi : Option Int) : sliceD lo hi (.tup z) = some (.d (.tup (cutD z lo hi))) := (rfl)
@[simp] theorem mulD_li (xs : List D) (k : Int) : mulD (.lst xs) (.int k) = if (-(2 ^ 63) ≤ k ∧ k < 2 ^ 63) ∧ xs.length * k.toNat ≤ line then some (.lst (List.replicate k.toNat xs).flatten) else none := (rfl)
@[simp] theorem line_v : line = 16777216 := by unfold line; rfl
@[simp] theorem eqb_bt (b : Bool) (i : List D) : D.eqb (.bl b) (.tup i) = false := (rfl)
@[simp] theorem eqb_tb (b : Bool) (i : List D) : D.eqb (.tup i) (.bl b) = false := (rfl)
/-- numbers to 10^18 of either sign, truths, tuples of these -/
inductive Vl : Nat → D → Prop
  | int (k : Nat) (i : Int) : -1000000000000000000 ≤ i → i ≤ 1000000000000000000 → Vl k (.int i)
  | bl (k : Nat) (b : Bool) : Vl k (.bl b)
  | tup (k : Nat) (ds : List D) : ds.length ≤ 1000 → (∀ d ∈ ds, Vl k d) → Vl (k + 1) (.tup ds)
theorem Vl.mono {k k' : Nat} {d : D} (h : Vl k d) : k ≤ k' → Vl k' d := by
  induction h generalizing k' with
  | int k i h1 h2 => exact fun _ => .int _ _ h1 h2
  | bl k b => exact fun _ => .bl _ _
  | tup k ds hl h ih =>
    intro hk
    cases k' with
    | zero => omega
    | succ k' => exact .tup _ _ hl fun d hd => ih d hd (by omega)
theorem pls_of {ds : List D} (h : ∀ d ∈ ds, d.pl = true) : D.pls ds = true := by
  induction ds with
  | nil => rfl
  | cons x xs ih => rw [pls_cons, h x (List.mem_cons_self ..), ih fun d hd => h d (List.mem_cons_of_mem _ hd)]; rfl
theorem deps_of {ds : List D} {k : Nat} (h : ∀ d ∈ ds, d.dep ≤ k) : D.deps ds ≤ k := by
  induction ds with
  | nil => exact Nat.zero_le _
  | cons x xs ih =>
    rw [deps_cons]
    exact Nat.max_le.mpr ⟨h x (List.mem_cons_self ..), ih fun d hd => h d (List.mem_cons_of_mem _ hd)⟩
theorem Vl.pl {k : Nat} {d : D} (h : Vl k d) : d.pl = true := by
  induction h with
  | int k i h1 h2 => rfl
  | bl k b => rfl
  | tup k ds hl h ih => rw [pl_tup]; exact pls_of ih
theorem Vl.dep {k : Nat} {d : D} (h : Vl k d) : d.dep ≤ k := by
  induction h with
  | int k i h1 h2 => exact Nat.zero_le _
  | bl k b => exact Nat.zero_le _
  | tup k ds hl h ih => rw [dep_tup]; exact Nat.succ_le_succ (deps_of ih)
section
variable {X : Cx} {kp : Nat → Bool} {e a b c : Expr} {pos : Pos} {K : KG} {F : Hp}

end
section
variable {X : Cx} {kp : Nat → Bool} {a b : Expr} {pos : Pos}
end
@[simp] theorem mulD_si (x : Str) (k : Int) : mulD (.str x) (.int k) = if 0 ≤ k ∧ k ≤ 1000 ∧ x.length ≤ 1000 then some (.d (.str (repS x k.toNat))) else none := (rfl)
@[simp] theorem mulD_ti (xs : List D) (k : Int) : mulD (.tup xs) (.int k) = if 0 ≤ k ∧ k ≤ 10000 ∧ xs ≠ [] ∧ xs.length ≤ 100 then some (.d (.tup (List.replicate k.toNat xs).flatten)) else none := (rfl)
/-! ### enumerate(text) -/
section
variable {X : Cx} {a : Expr} {pos : Pos}
end
/-! ### dict displays -/
section
variable {X : Cx} {pos : Pos}
end
section
variable {X : Cx} {pos : Pos}
end
noncomputable def tl (x : Str) : List Nat := x.cps.toList
@[simp] theorem tl_app (x y : Str) : tl (x ++ y) = tl x ++ tl y := TL.tl_append x y
@[simp] theorem len_app (x y : Str) : (x ++ y).length = x.length + y.length := PySem.Str.length_append x y
theorem eq_of_wp {c : CR} {a : M} {S : List (Option M)} (q : c.wp fun r fin => r = a ∧ fin = S) : c = .ok a S := by
  obtain ⟨x, T, e, rfl, rfl⟩ := CR.wp_ok q
  exact e
/-! ### lists of texts -/
mutual
theorem D.py_nd : ∀ d : D, d.pl = true → d.py.hasDict = false
  | .non, _ => rfl
  | .bl _, _ => rfl
  | .int _, _ => rfl
  | .str _, _ => rfl
  | .tup xs, h => D.pys_nd xs h
  | .lst xs, h => D.pys_nd xs h
theorem D.pys_nd : ∀ xs : List D, D.pls xs = true → PyData.hasDictAll (D.pys xs) = false
  | [], _ => rfl
  | x :: xs, h => by
    have h : (D.pl x && D.pls xs) = true := h
    rw [Bool.and_eq_true] at h
    show (PyData.hasDict (D.py x) || PyData.hasDictAll (D.pys xs)) = false
    rw [D.py_nd x h.1, D.pys_nd xs h.2]
    rfl
end
noncomputable def rp (d : D) : Str := d.py.shown
noncomputable def rpOk (d : D) : Bool := d.pl && d.py.showable && decide (d.dep ≤ 196) && decide ((rp d).length ≤ 16777216)
noncomputable def reprD : D → Option M
  | .lst xs => if rpOk (.lst xs) = true then some (.d (.str (rp (.lst xs)))) else none
  | .tup xs => if rpOk (.tup xs) = true then some (.d (.str (rp (.tup xs)))) else none
  | _ => none
section
variable {X : Cx}
theorem repr_at {n : Nat} {pins : List (Addr × Obj)} {s : Shared} {σ : St} {H F : Hp} {a : Addr} {d : D} {us : List Value} {Q : VK} (hr : RoomG n X.A) (I : Inv X pins σ H s) (r : Vals [.ref a] us) (l : Le F H) (w : View (kg X) H F (.ref a) d) (h : rpOk d = true) (wi : Wish (kg X) H F (.d (.str (rp d))) Q) :
    wpAny (model X.prog X.w) X.A (call (.builtin "repr") us) (EP X pins σ Q) X.xe s := by
  unfold rpOk at h
  rw [Bool.and_eq_true, Bool.and_eq_true, Bool.and_eq_true] at h
  obtain ⟨⟨⟨h1, h2⟩, h3⟩, h4⟩ := h
  have h3 := of_decide_eq_true h3
  have h4 : d.py.shown.length ≤ 16777216 := of_decide_eq_true h4
  obtain ⟨u, rfl, rv⟩ := vals1 r
  obtain rfl : u = Value.ref a := rv
  obtain ⟨as, R⟩ := (w.dp l h1).reads I d.py (.ref a) (.ref a) rfl
  have hd := D.py_dep d h1
  have un := hr.rm.un
  refine PySem.repr_of_reads' R h2 (PyData.noDict_hsm (D.py_nd d h1)) hr.gd (by rw [hd]; omega) (fun _ _ e => e) (fun h' u tk hk => ?_) (by rw [sizeLine_eq]; exact h4)
  exact ⟨.str _, H, I.kept hk, ⟨u, rfl⟩, wi.str⟩
theorem cd_repr {n : Nat} (hr : RoomG n X.A) : CallR X (.builtin "repr") (semC (kg X) (on1 reprD)) := call1 fun pins s σ H F v x us m Q I r l wx e wi => by
  cases x with
  | lst ds =>
    obtain ⟨a, vs, rfl, h1, r1⟩ := wx.list l
    have e : (if rpOk (.lst ds) = true then some (M.d (.str (rp (.lst ds)))) else none) = some m := e
    split at e
    · rename_i h
      cases e
      exact repr_at hr I r l wx h wi
    · cases e
  | tup ds =>
    obtain ⟨a, vs, rfl, h1, r1⟩ := wx.tuple l
    have e : (if rpOk (.tup ds) = true then some (M.d (.str (rp (.tup ds)))) else none) = some m := e
    split at e
    · rename_i h
      cases e
      exact repr_at hr I r l wx h wi
    · cases e
  | _ => cases e
end
@[simp] theorem reprD_l (xs : List D) : reprD (.lst xs) = if rpOk (.lst xs) = true then some (.d (.str (rp (.lst xs)))) else none := (rfl)
@[simp] theorem reprD_t (xs : List D) : reprD (.tup xs) = if rpOk (.tup xs) = true then some (.d (.str (rp (.tup xs)))) else none := (rfl)
/-! ### how long what repr tells may be -/
mutual
noncomputable def D.fit : D → Bool
  | .non => true
  | .bl _ => true
  | .int i => decide (-18446744073709551616 < i ∧ i < 18446744073709551616)
  | .str x => x.cps.toList.all fun c => decide (c < 4294967296)
  | .tup xs => D.fits xs
  | .lst xs => D.fits xs
  | _ => false
noncomputable def D.fits : List D → Bool
  | [] => true
  | x :: xs => D.fit x && D.fits xs
end
@[simp] theorem fit_non : D.fit .non = true := (rfl)
@[simp] theorem fit_bl (b : Bool) : D.fit (.bl b) = true := (rfl)
@[simp] theorem fit_int (i : Int) : D.fit (.int i) = decide (-18446744073709551616 < i ∧ i < 18446744073709551616) := (rfl)
@[simp] theorem fit_tup (xs : List D) : D.fit (.tup xs) = D.fits xs := (rfl)
@[simp] theorem fit_lst (xs : List D) : D.fit (.lst xs) = D.fits xs := (rfl)
@[simp] theorem fits_n : D.fits [] = true := (rfl)
@[simp] theorem fits_c (x : D) (xs : List D) : D.fits (x :: xs) = (D.fit x && D.fits xs) := (rfl)
theorem listText_le (ts : List Str) : (listText ts).length ≤ piled ts + 3 := by
  cases ts with
  | nil => decide +kernel
  | cons t r =>
    have h := textFrom_length_pos r 1 (("[" : Str) ++ (if (0 : Nat) > 0 then ", " else "" : String) ++ t) (Nat.succ_pos 0)
    have e : ((("[" : Str) ++ (if (0 : Nat) > 0 then ", " else "" : String) ++ t)).length = 1 + t.length := by
      rw [strLen_append, strLen_append]; rfl
    have hX : (listText (t :: r)).length = (textFrom 1 (("[" : Str) ++ (if (0 : Nat) > 0 then ", " else "" : String) ++ t) r).length + 1 := by
      show (textFrom 0 "[" (t :: r) ++ "]").length = _
      rw [strLen_append]; rfl
    rw [hX, h, e, piled_cons]
    omega
section
variable {prog : Program} {w : World} {A : Around} {E : Value → Shared → Prop} {s : Shared}
end
section
variable {X : Cx}
end
theorem RepDs.last {K : KG} {F : Hp} : ∀ {vs : List V} {ds : List D} {x : D}, RepDs K F vs ds → ds.getLast? = some x → ∃ v, vs = vs.dropLast ++ [v] ∧ RepD K F v x
  | [], [], x, _, h => by cases h
  | [v], [d], x, .cons a .nil, h => by
    cases h
    exact ⟨_, rfl, a⟩
  | v :: w :: vs, d :: d2 :: ds, x, .cons a r, h => by
    rw [List.getLast?_cons_cons] at h
    obtain ⟨z, e, hz⟩ := RepDs.last r h
    refine ⟨z, ?_, hz⟩
    rw [List.dropLast_cons₂, List.cons_append, ← e]
section
variable {X : Cx} {kp : Nat → Bool} {e : Expr} {pos pt : Pos} {x y : Str} {px py ps : Pos} {kt : Nat}
end
/-! ### x.reverse() -/
section
variable {X : Cx}
end
noncomputable def tabIs (w : World) : List DictEntry → List (Str × Int) → Prop
  | [], [] => True
  | e :: es, (k, i) :: kvs => (e.hash = hashStr w k ∧ (∃ t, e.key = .str k t) ∧ ∃ t, e.val = .int i t) ∧ tabIs w es kvs
  | _, _ => False
/-- a global that is such a table -/
noncomputable def TabG (w : World) (K : PySem.W.Frag) (mg : Str → Option Value) (x : Str) (kvs : List (Str × Int)) : Prop :=
  ∃ a o es ep, mg x = some (.ref a) ∧ K.lookup a = some o ∧ o.ExactDict ∧ o.data = .dict es ep ∧ tabIs w es.toList kvs ∧ (a == sysModules) = false ∧ (kvs.map (·.1)).Nodup
section
variable {X : Cx} {e a b : Expr} {pos pos' : Pos} {x : Str} {kvs : List (Str × Int)}
theorem TabG.at (T : TabG X.w X.K X.mg x kvs) : ∃ a, X.mg x = some (.ref a) ∧ ∃ o es ep, X.K.lookup a = some o ∧ o.ExactDict ∧ o.data = .dict es ep ∧ tabIs X.w es.toList kvs ∧ (a == sysModules) = false ∧ (kvs.map (·.1)).Nodup := by
  obtain ⟨a, o, es, ep, h1, h2⟩ := T
  exact ⟨a, h1, o, es, ep, h2⟩
end

section
variable {X : Cx} {a : Expr} {p p2 q pos : Pos}
end
section
variable {X : Cx} {e : Expr} {p pos kpos cpos : Pos} {kj : Nat}
end
section
variable {X : Cx} {a b c : Expr} {pos : Pos} {K : KG} {F : Hp}
end
/-- the text of an entry -/
noncomputable def keyS (e : Int × Value) : Str := match e.2 with
  | .str k _ => k
  | _ => Str.empty
/-- an entry that is a text at its hash -/
noncomputable def TxE (w : World) (e : Int × Value) : Prop := ∃ k tk, e = (hashStr w k, Value.str k tk)
/-- the set at a holds just these texts, and its order can be followed -/
noncomputable def SetX (w : World) (h : Heap) (a : Addr) (xs : List Str) : Prop :=
  ∃ o es ep t, (h.get? a = some o ∧ o.ExactSet ∧ o.data = .set es ep t) ∧ ((∀ e ∈ es.toList, TxE w e) ∧ (es.toList.map keyS).Perm xs) ∧ xs.Nodup ∧ xs.length < scanBound ∧
    (t.fits es.size = true ∧ Ris t.place.toList ∧ (w.params.followText "set-order" = true ∨ t.led = true))
section
variable {P : Program} {w : World} {A : Around} {E : Value → Shared → Prop} {s : Shared} {a : Addr} {xs : List Str}
end
section
variable {P : Program} {w : World} {A : Around} {E : Value → Shared → Prop} {s : Shared} {a : Addr} {xs : List Str}
end
section
variable {X : Cx} {a : Expr} {p p2 q pos : Pos}
end
/-! ### the parts of an owned thing -/
mutual
/-- from one place to another, with what is below it -/
theorem RepM.rel {K : KG} {H F H' F' : Hp} {O O' : OW} {z z' : Rt} {p0 p1 : List Nat} (ff : Le F F') (k : ∀ a o s, O a = some (z, p0 ++ s) → H a = some o → H' a = some o ∧ O' a = some (z', p1 ++ s)) : ∀ {m : M} {s : List Nat} {v : V}, RepM K H F O (z, p0 ++ s) v m → RepM K H' F' O' (z', p1 ++ s) v m
  | .d x, s, v, h => RepD.mono ff h
  | .lst ds, s, v, h => by
    obtain ⟨a, vs, e, ho, hh, r⟩ := h
    obtain ⟨k1, k2⟩ := k a _ s ho hh
    exact ⟨a, vs, e, k2, k1, r.mono ff⟩
  | .dk kd, s, v, h => by
    obtain ⟨a, ks, vs, ds, e, ho, hh, el, r, ek⟩ := h
    obtain ⟨k1, k2⟩ := k a _ s ho hh
    exact ⟨a, ks, vs, ds, e, k2, k1, el, r.mono ff, ek⟩
  | .dt kd, s, v, h => by
    obtain ⟨a, ks, vs, ds, e, ho, hh, el, r, ek⟩ := h
    obtain ⟨k1, k2⟩ := k a _ s ho hh
    exact ⟨a, ks, vs, ds, e, k2, k1, el, r.mono ff, ek⟩
  | .seq ms, s, v, h => by
    obtain ⟨a, vs, e, ho, hh, r⟩ := h
    obtain ⟨k1, k2⟩ := k a _ s ho hh
    exact ⟨a, vs, e, k2, k1, RepMs.rel ff k r⟩
  | .box ms, s, v, h => by
    obtain ⟨a, vs, e, ht, r⟩ := h
    exact ⟨a, vs, e, ff _ _ ht, RepMs.rel ff k r⟩
  | .ob c ns ms, s, v, h => by
    obtain ⟨a, C, dx, vs, e, ho, hc, hh, el, r⟩ := h
    obtain ⟨k1, k2⟩ := k a _ s ho hh
    exact ⟨a, C, dx, vs, e, k2, hc, k1, el, RepMs.rel ff k r⟩
  | .exn x, s, v, h => by
    obtain ⟨a, cls, d, e1, e2, r⟩ := h
    exact ⟨a, cls, d, e1, e2, r.mono ff⟩
theorem RepMs.rel {K : KG} {H F H' F' : Hp} {O O' : OW} {z z' : Rt} {p0 p1 : List Nat} (ff : Le F F') (k : ∀ a o s, O a = some (z, p0 ++ s) → H a = some o → H' a = some o ∧ O' a = some (z', p1 ++ s)) : ∀ {ms : List M} {s : List Nat} {n : Nat} {vs : List V}, RepMs K H F O (z, p0 ++ s) n vs ms → RepMs K H' F' O' (z', p1 ++ s) n vs ms
  | [], s, n, vs, h => h
  | m :: ms, s, n, vs, h => by
    obtain ⟨v, vs', e, h1, h2⟩ := h
    refine ⟨v, vs', e, ?_, RepMs.rel ff k h2⟩
    have h1 : RepM K H F O (z, p0 ++ s ++ [n]) v m := h1
    show RepM K H' F' O' (z', p1 ++ s ++ [n]) v m
    rw [List.append_assoc] at h1 ⊢
    exact RepM.rel ff k h1
end
theorem RepMs.get {K : KG} {H F : Hp} {O : OW} {q : Pl} : ∀ {ms : List M} {n k : Nat} {vs : List V} {m : M}, RepMs K H F O q n vs ms → ms[k]? = some m → ∃ v, vs[k]? = some v ∧ RepM K H F O (q.1, q.2 ++ [n + k]) v m
  | [], n, k, vs, m, h, e => by simp at e
  | x :: ms, n, 0, vs, m, h, e => by
    obtain ⟨v, vs', ev, h1, h2⟩ := h
    simp only [List.getElem?_cons_zero, Option.some.injEq] at e
    subst e ev
    exact ⟨v, rfl, h1⟩
  | x :: ms, n, k + 1, vs, m, h, e => by
    obtain ⟨v, vs', ev, h1, h2⟩ := h
    subst ev
    obtain ⟨u, e1, e2⟩ := RepMs.get (k := k) h2 (by simpa using e)
    refine ⟨u, by simpa using e1, ?_⟩
    have z : n + 1 + k = n + (k + 1) := by omega
    rw [z] at e2
    exact e2
/-- one part changed, the others kept -/
theorem RepMs.put {K : KG} {H F H' F' : Hp} {O O' : OW} {q q' : Pl} {v' : V} {m' : M} : ∀ {ms : List M} {n k : Nat} {vs : List V}, (∀ i v m, i ≠ n + k → RepM K H F O (q.1, q.2 ++ [i]) v m → RepM K H' F' O' (q'.1, q'.2 ++ [i]) v m) → RepM K H' F' O' (q'.1, q'.2 ++ [n + k]) v' m' → RepMs K H F O q n vs ms →
    RepMs K H' F' O' q' n (vs.set k v') (ms.set k m')
  | [], n, k, vs, keep, hm, h => by
    rw [show vs = [] from h]
    cases k <;> rfl
  | x :: ms, n, 0, vs, keep, hm, h => by
    obtain ⟨v, vs', ev, h1, h2⟩ := h
    subst ev
    refine ⟨v', vs', rfl, hm, ?_⟩
    have : ∀ {ms : List M} {j : Nat} {vs : List V}, n < j → RepMs K H F O q j vs ms → RepMs K H' F' O' q' j vs ms := by
      intro ms
      induction ms with
      | nil => exact fun {j vs} _ h => h
      | cons y ys ih =>
        rintro j vs hj ⟨v, vs', e, h1, h2⟩
        exact ⟨v, vs', e, keep _ _ _ (by omega) h1, ih (by omega) h2⟩
    exact this (Nat.lt_succ_self _) h2
  | x :: ms, n, k + 1, vs, keep, hm, h => by
    obtain ⟨v, vs', ev, h1, h2⟩ := h
    subst ev
    refine ⟨v, vs'.set k v', rfl, keep _ _ _ (by omega) h1, ?_⟩
    have z : n + 1 + k = n + (k + 1) := by omega
    exact RepMs.put (n := n + 1) (k := k) (fun i v m hi => keep i v m (by rw [← z]; exact hi)) (by rw [z]; exact hm) h2
theorem RepMs.all {K : KG} {H F H' F' : Hp} {O O' : OW} {q q' : Pl} : ∀ {ms : List M} {n : Nat} {vs : List V}, (∀ i v m, RepM K H F O (q.1, q.2 ++ [i]) v m → RepM K H' F' O' (q'.1, q'.2 ++ [i]) v m) → RepMs K H F O q n vs ms → RepMs K H' F' O' q' n vs ms
  | [], n, vs, keep, h => h
  | x :: ms, n, vs, keep, h => by
    obtain ⟨v, vs', ev, h1, h2⟩ := h
    exact ⟨v, vs', ev, keep _ _ _ h1, RepMs.all keep h2⟩
section
variable {K : KG} {H F : Hp} {O : OW} {σ : St} {S : SS} {j k : Nat} {m0 m : M}
end

/-! ### a slot hidden while something else is reckoned -/
section
variable {K : KG} {H F H2 F2 : Hp} {O O2 : OW} {σ : St} {S S2 : SS} {j k : Nat} {m0 m : M} {v0 v : V}
end

/-! ### a part as a receiver -/
section
variable {X : Cx} {o b e : Expr} {pos : Pos} {j : Nat}
end

section
variable {K : KG} {H F H2 F2 : Hp} {O O2 : OW} {σ : St} {S S2 : SS} {j k : Nat} {m0 m : M} {v0 v : V}
end
section
variable {X : Cx} {o b e : Expr} {pos : Pos} {j : Nat} {ci : M → Option Nat} {apos cpos : Pos} {f : FE}
end

/-! ### a look that changes nothing -/
section
variable {K : KG} {H F H2 F2 : Hp} {O O2 : OW} {σ : St} {S S2 : SS}
/-- all is as it was behind a look -/
theorem Rp.back (r : Rp K H F O σ S) {F1 : Hp} (st : Stp H F1 (fun _ => none) H2 F2 O2) : Stp H F O H2 F O ∧ Rp K H2 F O σ S := by
  have kp : ∀ a o, H a = some o → H2 a = some o := fun a o e => st.kp a o e rfl
  refine ⟨⟨Le.refl _, fun a o e _ => kp a o e, fun a q e => .inl ⟨q, e⟩, fun a o e => .inl e, fun a o e => ⟨o, kp a o e⟩⟩, ⟨fun a o e => kp a o (r.bs.fh a o e), fun a q e => ?_⟩, r.len, fun i m e => ?_⟩
  · obtain ⟨h1, o, h2⟩ := r.bs.fo a q e
    exact ⟨h1, o, kp a o h2⟩
  · obtain ⟨v, hv, rm⟩ := r.sl i m e
    exact ⟨v, hv, rm.stay (Le.refl _) fun a o p e1 e2 => ⟨kp a o e2, e1⟩⟩
end
section
variable {X : Cx} {e : Expr}
end

/-! ### displays of owned things -/
section
variable {K : KG} {H F H2 F2 : Hp} {O O2 : OW} {σ : St} {S S2 : SS} {n : Nat}
end
section
variable {X : Cx} {e : Expr} {es : List Expr} {pos : Pos} {n : Nat}
end

/-! ### a part is set -/
theorem RepMs.snoc {K : KG} {H F : Hp} {O : OW} {q : Pl} {v : V} {m : M} : ∀ {ms : List M} {n : Nat} {vs : List V}, RepMs K H F O q n vs ms → RepM K H F O (q.1, q.2 ++ [n + ms.length]) v m → RepMs K H F O q n (vs ++ [v]) (ms ++ [m])
  | [], n, vs, h, hm => by
    rw [show vs = [] from h]
    exact ⟨v, [], rfl, hm, rfl⟩
  | x :: ms, n, vs, h, hm => by
    obtain ⟨u, vs', e, h1, h2⟩ := h
    subst e
    refine ⟨u, vs' ++ [v], rfl, h1, RepMs.snoc h2 ?_⟩
    have z : n + 1 + ms.length = n + (x :: ms).length := by rw [List.length_cons]; omega
    rw [z]
    exact hm
section
variable {K : KG} {H F : Hp} {O : OW} {σ : St} {S : SS} {j k : Nat} {m : M} {v : V}
end

section
variable {X : Cx} {kp : Nat → Bool} {o b e i : Expr} {pos spos : Pos} {j : Nat}
theorem lookup_repd {K : KG} {F : Hp} {f : Str} : ∀ {ns : List Str} {vs : List V} {ds : List D} {d : D}, RepDs K F vs ds → (ns.zip ds).lookup f = some d → ∃ v, (ns.zip vs).lookup f = some v ∧ RepD K F v d
  | [], vs, ds, d, h, e => by simp at e
  | n :: ns, _, _, d, .nil, e => by simp at e
  | n :: ns, _, _, d, .cons (v := v) (d := x) h hs, e => by
    rw [List.zip_cons_cons, List.lookup_cons] at e ⊢
    cases c : (f == n) with
    | true => rw [c] at e; cases e; exact ⟨v, rfl, h⟩
    | false => rw [c] at e; exact lookup_repd hs e
end

/-! ### for x in xs: x.append(const), xs a list of owned lists -/
/-- a slot's value changed, and forgotten -/
theorem Rp.over {K : KG} {H F : Hp} {O : OW} {σ : St} {S : SS} {i : Nat} {v : Option V} (r : Rp K H F O σ S) : Rp K H F O (σ.set i v) (S.set i none) := by
  refine ⟨r.bs, by rw [List.length_set, List.length_set]; exact r.len, fun q x hq => ?_⟩
  rcases SS.at_set hq with ⟨z1, z2⟩ | ⟨ne, hq⟩
  · cases z2
  · obtain ⟨w, hw, rm⟩ := r.sl q x hq
    exact ⟨w, by rw [List.getElem?_set_ne ne]; exact hw, rm⟩
section
variable {X : Cx} {kp : Nat → Bool} {tg it o c : Expr} {pos p1 p2 p3 apos cpos : Pos} {j i : Nat} {v : V} {d : D}
end

/-! ### the words, to be reckoned -/
theorem line_val : line = 16777216 := (rfl)

section
variable {X : Cx} {k : Nat} {f C : Addr} {fd : FuncData} {ps : List Str} {sp : Sp} {E : XK} {x m : Str} {p pos apos : Pos} {e o : Expr} {es : List Expr} {ta : TE} {t : TA}
theorem RoomG.make {A : Around} (r : RoomG (k + 1) A) (C : Addr) (us : List Value) (kw : List (Str × Value)) : RoomG k (A.under (.builtin "type.__call__" ⟨.ref C :: us, kw⟩)) := ⟨r.rm.make C us kw, r.gd⟩
end

/-! ### methods -/
/-- a method of a class of the text -/
structure FnM (P : Program) (w : World) (K : PySem.W.Frag) (mg : Str → Option Value) (base : Heap) (n : Nat) (c m : Str) (np : Nat) (g : List M → CR) : Prop where
  ex : ∃ (C f : Addr) (fd : FuncData) (ps : List Str), mg c = some (.ref C) ∧ Cls K C ∧ Meth K C m f ∧ ps.length = np ∧ FnG P w K mg base n f fd ps (spD (kg0 K mg) np g) ∧ Binds K fd ps []
theorem clsOf_ref {mg : Str → Option Value} {c : Str} {C : Addr} (h : mg c = some (.ref C)) : clsOf mg c = some C := by
  unfold clsOf
  rw [h]
section
variable {X : Cx} {n np : Nat} {c m x : Str} {g : List M → CR} {p pos apos : Pos} {e o : Expr} {es : List Expr} {fe : FE} {fas : FA}
/-! ### makers -/
/-- a class of the text and its __init__ -/
structure FnI (P : Program) (w : World) (K : PySem.W.Frag) (mg : Str → Option Value) (base : Heap) (n : Nat) (c : Str) (np : Nat) (g : List M → CR) : Prop where
  ex : (∀ ms, g ms = .no) ∨ ∃ (k : Nat) (C f : Addr) (fd : FuncData) (ps : List Str), k + 1 = n ∧ mg c = some (.ref C) ∧ Mk K C f ∧ ps.length = np ∧ FnG P w K mg base k f fd ps (spD (kg0 K mg) np g) ∧ Binds K fd ps []
end
/-! ### int(text) -/
section
variable {X : Cx}
/-! ### f-strings -/
variable {e : Expr} {pos : Pos}
/-! ### replace, split behind a docstring -/
theorem PET.imp {t t' : TE} (h : PET X e t) (hm : ∀ σ H Q, t' σ H Q → t σ H Q) : PET X e t' := fun pins s σ H Q h0 I q => h pins s σ H Q h0 I (hm σ H Q q)
noncomputable abbrev DMT (X : Cx) (f : FM) (e : Expr) : Prop := PET X e (rdM (kg X) f)
theorem DMT.of {f : FM} (h : DM X f e) : DMT X f e := CwR.PET.of h
end
/-! ### simp lemmas -/
@[simp] theorem callR_ap (g : List M → CR) (os : List Ov) (S1 : SS) : callR g os S1 = match lend os S1 with
  | some (ms, S2) => (g ms).toR fun fin => back os ms fin S2
  | none => .no := (rfl)
/-! ### a set of texts as a thing -/
theorem SetX.at_ {w : World} {h h' : Heap} {a : Addr} {xs : List Str} (R : SetX w h a xs) (k : ∀ o, h.get? a = some o → h'.get? a = some o) : SetX w h' a xs :=
  let ⟨o, es, ep, t, ⟨ho, hx, hd⟩, r⟩ := R
  ⟨o, es, ep, t, ⟨k o ho, hx, hd⟩, r⟩
section
variable {X : Cx}
end
section
variable {X : Cx} {p pos : Pos}
end

theorem View.dict {K : KG} {H F : Hp} {v : V} {kd : List (Key × D)} (l : Le F H) (h : View K H F v (.dk kd)) : ∃ (a : Addr) (ks : List Key) (vs : List V) (ds : List D), v = .ref a ∧ Rd H a (.dK (ks.zip vs)) ∧ ks.length = vs.length ∧ RepDs K F vs ds ∧ kd = ks.zip ds := by
  generalize hd : D.dk kd = d at h
  cases h with
  | fz h =>
    subst hd
    generalize hd : D.dk kd = d at h
    cases h with
    | dk h e r => cases hd; exact ⟨_, _, _, _, rfl, l.rd h, e, r, rfl⟩
    | _ => cases hd
  | dk h e r => cases hd; exact ⟨_, _, _, _, rfl, .inl h, e, r, rfl⟩
  | _ => cases hd
section
variable {X : Cx} {e a b o i : Expr} {pos apos cpos : Pos}
/-! ### d[k] = v -/
/-! ### x.pop(i) -/
end
/-! ### {k: v for ..} -/
/-! ### simp lemmas -/
section
variable {X : Cx} {kp : Nat → Bool} {e : Expr} {pos pt : Pos} {x y : Str} {px py ps : Pos} {kt : Nat}
end
/-! ### x.clear() -/
section
variable {X : Cx}
end
/-! ### name = {k: v for ..}, the name a local -/
section
variable {X : Cx} {kp : Nat → Bool}
end
/-! ### len(set(a tuple of texts)) -/
section
variable {X : Cx} {a : Expr} {p p2 q pos : Pos}
end
noncomputable def parO (i j : Nat) (O : OW) : OW := fun a => match O a with
  | some (.r, 0 :: p) => some (.s i, p)
  | some (.r, 1 :: p) => some (.s j, p)
  | some (.s k, p) => if k = i ∨ k = j then none else some (.s k, p)
  | _ => none
theorem parO_some {i j : Nat} {O : OW} {a : Addr} {q : Pl} (h : parO i j O a = some q) : ∃ q', O a = some q' := by
  unfold parO at h
  cases e : O a with
  | none => rw [e] at h; cases h
  | some q' => exact ⟨q', rfl⟩
section
variable {K : KG} {H F : Hp} {O : OW} {σ : St} {S : SS}
theorem Rp.par {i j : Nat} {v w : V} {m1 m2 : M} (r : Rp K H F O σ S) (hij : i ≠ j) (rs : RepMs K H F O (.r, []) 0 [v, w] [m1, m2]) :
    Stp H F O H F (parO i j O) ∧ Rp K H F (parO i j O) ((σ.set i (some v)).set j (some w)) ((S.set i (some m1)).set j (some m2)) := by
  obtain ⟨v', vs', e, h1, h2⟩ := rs
  cases e
  obtain ⟨w', ws', e, h3, _⟩ := h2
  cases e
  refine ⟨⟨Le.refl _, fun a o ha _ => ha, fun a q e => .inl (parO_some e), fun a o e => .inl e, fun a o e => ⟨o, e⟩⟩, ⟨⟨r.bs.fh, fun a q e => ?_⟩, by simp only [List.length_set]; exact r.len, fun k x h => ?_⟩⟩
  · obtain ⟨q', e'⟩ := parO_some e
    exact r.bs.fo a q' e'
  · have lt : ∀ {k : Nat} {x : M} {T : SS}, T.at k = some x → k < T.length := fun {k x T} h => by
      unfold SS.at at h
      by_cases z : k < T.length
      · exact z
      · rw [List.getElem?_eq_none (by simpa using z)] at h; cases h
    rcases SS.at_set h with ⟨e1, e2⟩ | ⟨ne, h⟩
    · subst e1
      cases e2
      have hl := lt h
      simp only [List.length_set, r.len] at hl
      exact ⟨w, by rw [List.getElem?_set_self (by simpa using hl)], RepM.rel (z := .r) (z' := .s j) (p0 := [1]) (p1 := []) (s := []) (Le.refl _) (fun a o s e3 e4 => ⟨e4, by unfold parO; rw [e3]; rfl⟩) h3⟩
    · rcases SS.at_set h with ⟨e1, e2⟩ | ⟨ne2, h⟩
      · subst e1
        cases e2
        have hl := lt h
        simp only [List.length_set, r.len] at hl
        exact ⟨v, by rw [List.getElem?_set_ne ne, List.getElem?_set_self hl], RepM.rel (z := .r) (z' := .s i) (p0 := [0]) (p1 := []) (s := []) (Le.refl _) (fun a o s e3 e4 => ⟨e4, by unfold parO; rw [e3]; rfl⟩) h1⟩
      · obtain ⟨u, hu, ru⟩ := r.sl k x h
        refine ⟨u, by rw [List.getElem?_set_ne ne, List.getElem?_set_ne ne2]; exact hu, ru.stay (Le.refl _) fun a o p e1 e2 => ⟨e2, ?_⟩⟩
        unfold parO
        rw [e1]
        dsimp only
        rw [if_neg]
        rintro (z | z)
        · exact ne2 z.symm
        · exact ne z.symm
end
section
variable {X : Cx} {kp : Nat → Bool} {a b : Expr} {pos : Pos}
end
namespace TZ
open PySem PySem.Spec
open PyProof.Rows hiding St

/-- a zip of two tuples at turn i: fresh, or one whose last pair is still out -/
structure At (h : Heap) (z TI TO a1 a2 l1 l2 : Addr) (i : Nat) : Prop where
  st : (IsZip h z TI TO .none ∧ ∃ u v, IsPair h TO u v) ∨ ∃ T f oT, IsZipHeld h z TI TO T f ∧ h.get? T = some oT
  ti : IsPair h TI (.ref a1) (.ref a2)
  p1 : h.IsTupleIter a1 l1 i
  p2 : h.IsTupleIter a2 l2 i
section
variable {prog : Program} {w : World} {A : Around} {E : Value → Shared → Prop} {s : Shared} {z TI TO a1 a2 l1 l2 : Addr} {i : Nat} {xs ys : Array Value}
theorem At.keep {h h' : Heap} {S : Addr} (t : At h z TI TO a1 a2 l1 l2 i) (nz : z ≠ S) (nI : TI ≠ S) (nO : TO ≠ S) (n1 : a1 ≠ S) (n2 : a2 ≠ S) (k : ∀ b o, b ≠ S → h.get? b = some o → h'.get? b = some o) (k2 : ∀ b o, h.get? b = some o → ∃ o', h'.get? b = some o') : At h' z TI TO a1 a2 l1 l2 i := by
  obtain ⟨st, ti, p1, p2⟩ := t
  refine ⟨?_, k _ _ nI ti, p1.at fun o e => k _ o n1 e, p2.at fun o e => k _ o n2 e⟩
  rcases st with ⟨q, u, v, q2⟩ | ⟨T, f, oT, q, q2⟩
  · exact .inl ⟨k _ _ nz q, u, v, k _ _ nO q2⟩
  · obtain ⟨o', e⟩ := k2 _ _ q2
    exact .inr ⟨T, f, o', k _ _ nz q, e⟩
theorem At.ty {h : Heap} (t : At h z TI TO a1 a2 l1 l2 i) : ∃ o, h.get? z = some o ∧ o.cls = .type "zip" := by
  rcases t.st with ⟨q, _⟩ | ⟨T, f, oT, q, _⟩
  · exact ⟨_, q, rfl⟩
  · exact ⟨_, q, rfl⟩
end
/-- the pairs made so far -/
structure Prs (xs ys : Array Value) (lo : Addr) (h : Heap) (as : List Addr) : Prop where
  up : as.Pairwise (· < ·)
  lo : ∀ a ∈ as, lo ≤ a
  at_ : ∀ (j : Nat) (a : Addr), as[j]? = some a → ∃ x y, xs[j]? = some x ∧ ys[j]? = some y ∧ IsPair h a x y
theorem Prs.keep {xs ys : Array Value} {lo : Addr} {h h' : Heap} {as : List Addr} (p : Prs xs ys lo h as) (k : ∀ b o, lo ≤ b → h.get? b = some o → h'.get? b = some o) : Prs xs ys lo h' as :=
  ⟨p.up, p.lo, fun j a e => let ⟨x, y, e1, e2, e3⟩ := p.at_ j a e; ⟨x, y, e1, e2, k _ _ (p.lo a (List.mem_of_getElem? e)) e3⟩⟩
section
variable {prog : Program} {w : World} {A : Around} {E : Value → Shared → Prop} {s : Shared} {z TI TO a1 a2 l1 l2 : Addr} {xs ys : Array Value} {R : Result → Shared → Prop} {n : Nat}
end
end TZ
/-! ### the rule -/
set_option maxHeartbeats 1000000
/-! ### its mirror -/
/-- what is wanted of an exception x with the slots S', the expression begun at these heaps -/
noncomputable def XWe (K : KG) (W : WX) (σ : St) (H F : Hp) (O : OW) (x : Exn) (S' : SS) : Prop :=
  ∀ cls d H' F' O', Stp H F O H' F' O' → Rp K H' F' O' σ S' → RepX K F' x cls d → W cls d σ H'
/-- an outcome: told, or an exception -/
noncomputable def Xo {α : Type} (K : KG) (W : WX) (σ : St) (H F : Hp) (O : OW) (r : R α) (k : α → SS → Prop) : Prop := match r with
  | .ok a S => k a S
  | .ex x S => XWe K W σ H F O x S
  | .no => False
section
variable {K : KG} {W : WX} {σ : St} {H F H1 F1 : Hp} {O O1 : OW} {α β : Type}
theorem Xo.bind {r : R α} {g : α → SS → R β} {k : β → SS → Prop} (h : Xo K W σ H F O (r.bind g) k) : Xo K W σ H F O r fun a S => Xo K W σ H F O (g a S) k := by
  cases r with
  | ok a S => exact h
  | ex x S => exact h
  | no => exact h
theorem Xo.mono {r : R α} {k k' : α → SS → Prop} (h : Xo K W σ H F O r k) (hk : ∀ a S, k a S → k' a S) : Xo K W σ H F O r k' := by
  cases r with
  | ok a S => exact hk _ _ h
  | ex x S => exact h
  | no => exact h
theorem Xo.from {r : R α} {k : α → SS → Prop} (st : Stp H F O H1 F1 O1) (h : Xo K W σ H F O r k) : Xo K W σ H1 F1 O1 r k := by
  cases r with
  | ok a S => exact h
  | ex x S => exact fun cls d H' F' O' st' => h cls d H' F' O' (st.trans st')
  | no => exact h
end
/-- no exception comes out of it -/
noncomputable def nx {α : Type} (f : SS → R α) : SS → R α := fun S => match f S with
  | .ok a S' => .ok a S'
  | _ => .no
section
variable {X : Cx} {W : WX} {e a b : Expr} {es : List Expr} {pos : Pos}
/-! ### what raises nothing -/
/-! ### expressions -/
/-! ### rows of arguments -/
/-! ### displays, subscripts, built-ins -/
end

noncomputable def XWs (K : KG) (kp : Nat → Bool) (W : WX) (σ : St) (H F : Hp) (O : OW) (x : Exn) (S' : SS) : Prop :=
  ∀ cls d σ' H' F' O', Stp H F O H' F' O' → Rp K H' F' O' σ' S' → Kp kp σ σ' → RepX K F' x cls d → W cls d σ' H'
noncomputable def Xs (K : KG) (kp : Nat → Bool) (W : WX) (D : Ends) (σ : St) (H F : Hp) (O : OW) (r : R Fl) : Prop := match r with
  | .ok fl S' => rdF K kp D σ H F O S' fl
  | .ex x S' => XWs K kp W σ H F O x S'
  | .no => False
section
variable {K : KG} {kp : Nat → Bool} {W : WX} {D : Ends} {σ σ1 : St} {H F H1 F1 : Hp} {O O1 : OW} {α : Type}
theorem XWs.from {x : Exn} {S' : SS} (h : XWs K kp W σ H F O x S') (st : Stp H F O H1 F1 O1) (k : Kp kp σ σ1) : XWs K kp W σ1 H1 F1 O1 x S' :=
  fun cls d σ' H' F' O' st' r' k' rx => h cls d σ' H' F' O' (st.trans st') r' (k.trans k') rx
theorem Xs.from {r : R Fl} (h : Xs K kp W D σ H F O r) (st : Stp H F O H1 F1 O1) (k : Kp kp σ σ1) : Xs K kp W D σ1 H1 F1 O1 r := by
  cases r with
  | ok fl S => exact rdF.from h st k
  | ex x S => exact XWs.from h st k
  | no => exact h
theorem XWs.we {x : Exn} {S' : SS} (h : XWs K kp W σ H F O x S') : XWe K W σ H F O x S' := fun cls d H' F' O' st r rx => h cls d σ H' F' O' st r (Kp.refl _ _) rx
/-- an expression, then the rest -/
theorem Xs.bind {r : R α} {g : α → SS → R Fl} (h : Xs K kp W D σ H F O (r.bind g)) : Xo K W σ H F O r fun a S => Xs K kp W D σ H F O (g a S) := by
  cases r with
  | ok a S => exact h
  | ex x S => exact XWs.we h
  | no => exact h
end
section
variable {X : Cx} {kp : Nat → Bool} {W : WX} {e a b : Expr} {pos : Pos} {st : Stmt} {rest sts : List Stmt} {f g : FS}
end

/-- what a def promises that may raise -/
noncomputable def spDx (K : KG) (np : Nat) (g : List M → CR) (vs : List V) (H : Hp) (E : XK) : Prop := ∃ F O ms x fin, vs.length = np ∧ ms.length = np ∧ Bs H F O ∧ (∀ p m, ms[p]? = some m → ∃ v, vs[p]? = some v ∧ RepM K H F O (.s p, []) v m) ∧ g ms = .ex x fin ∧
  ∀ cls d H' F' O', Stp H F O H' F' O' → Bs H' F' O' → RepX K F' x cls d → (∀ p m, fin[p]? = some (some m) → ∃ w, vs[p]? = some w ∧ RepM K H' F' O' (.s p, []) w m) → E cls d H'
noncomputable def spX (K : KG) (np : Nat) (g : List M → CR) : Sp := fun vs H Q E => spD K np g vs H Q E ∨ spDx K np g vs H E
/-- a def's promise, what it lets out lying as L2N has it -/
structure FnX (P : Program) (w : World) (K : PySem.W.Frag) (mg : Str → Option Value) (base : Heap) (k : Nat) (f : Addr) (fd : FuncData) (ps : List Str) (sp : Sp) : Prop where
  len : ∀ vs H Q E, sp vs H Q E → vs.length = ps.length
  run : ∀ (A : Around) (outer : List Env) (s : Shared) (H : Hp) (args : Args) (us : List Value) (vs : List V) (Q : VK) (E : XK), RoomG k A → Env0 P w K mg base A outer s H → BindsTo s fd args (ps.zip us) → Vals vs us → sp vs H Q E →
    codeAny (model P w) A (.call (.ref f) args) (L2.CR (L2N.CX P w) outer P w H s Q E) s
section
variable {X : Cx} {W : WX} {k : Nat} {f C : Addr} {fd : FuncData} {ps : List Str} {sp : Sp} {x m : Str} {p pos apos : Pos} {e o : Expr} {es : List Expr} {ta : TE} {t : TA}
end
/-! ### defs, methods, makers, by their names -/
structure FnDx (P : Program) (w : World) (K : PySem.W.Frag) (mg : Str → Option Value) (base : Heap) (n : Nat) (x : Str) (np : Nat) (g : List M → CR) : Prop where
  ex : ∃ (f : Addr) (fd : FuncData) (ps : List Str), ps.length = np ∧ FnX P w K mg base n f fd ps (spX (kg0 K mg) np g) ∧ mg x = some (.ref f) ∧ PySem.W.keepIn K (.ref f) = true ∧ Binds K fd ps []
structure FnMx (P : Program) (w : World) (K : PySem.W.Frag) (mg : Str → Option Value) (base : Heap) (n : Nat) (c m : Str) (np : Nat) (g : List M → CR) : Prop where
  ex : ∃ (C f : Addr) (fd : FuncData) (ps : List Str), mg c = some (.ref C) ∧ Cls K C ∧ Meth K C m f ∧ ps.length = np ∧ FnX P w K mg base n f fd ps (spX (kg0 K mg) np g) ∧ Binds K fd ps []
structure FnIx (P : Program) (w : World) (K : PySem.W.Frag) (mg : Str → Option Value) (base : Heap) (n : Nat) (c : Str) (np : Nat) (g : List M → CR) : Prop where
  ex : ∃ (C f : Addr), mg c = some (.ref C) ∧ Mk K C f ∧ ((∀ ms, g ms = .no) ∨ ∃ (k : Nat) (fd : FuncData) (ps : List Str), k + 1 = n ∧ ps.length = np ∧ FnX P w K mg base k f fd ps (spX (kg0 K mg) np g) ∧ Binds K fd ps [])
section
variable {X : Cx} {W : WX} {n np : Nat} {c m x : Str} {g : List M → CR} {p pos apos : Pos} {e o : Expr} {es : List Expr} {fe : FE} {fas : FA}
end
/-! ### a def that may raise -/
/-! ### __init__ of an own exception class: self.f = f for each param f, behind Base.__init__(self, text) -/
noncomputable def spI (K : PySem.W.Frag) (ns : List Str) : Sp := fun vs H Q _ => vs.length = ns.length + 1 ∧ ∃ (a C : Addr) (ws : List V), vs = .ref a :: ws ∧ OexC K C ∧ (∀ f ∈ ns, PySem.W.findIn K (.ref C) f = some none) ∧ H a = some (exo a C none) ∧
  ∀ d H', H d = none → d ≠ a → H' a = some (exo a C (some d)) → H' d = some (exd d ((ns.zip ws).reverse)) → (∀ b, b ≠ a → b ≠ d → H' b = H b) → Q .non H'
/-- attributes of the class at C are read plainly, its __init__ is ValueError's -/
structure BaseI (K : PySem.W.Frag) (mg : Str → Option Value) (x : Str) : Prop where
  ex : ∃ (C : Addr) (mc : Value), mg x = some (.ref C) ∧ ClX.CRead K C mc ∧ PySem.W.findCls K (.ref C) mc "__init__" = some (.val (.builtin "ValueError.__init__"))
section
variable {X : Cx} {x : Str} {e : Expr} {es : List Expr} {ta : TA} {p1 p2 pos : Pos}
theorem pe_cinit {pl : Sem Bool} (hg : Gl X x) (B : BaseI X.K X.mg x) (ha : PA X (e :: es) ta)
    (hc : eval (.Call (.Attribute (.Name x p1) "__init__" p2) (e :: es) [] pos) X.env = (do
      let ov ← eval (.Name x p1) X.env
      standAt p2.atName
      let (f, first) ← holding [ov] (getMethod ov "__init__" pl)
      callWith pos f first (backTo pos (starEach (e :: es) X.env)) (backToKw pos (keywordEach [] X.env))) := by rfl)
    (he : starEach (e :: es) X.env = (false, eval e X.env) :: starEach es X.env := by rfl) (hpl : (backTo pos (starEach es X.env)).any (·.1) = false := by rfl) (hdb : (x == ("__debug__" : Str)) = false := by decide) :
    PE X (.Call (.Attribute (.Name x p1) "__init__" p2) (e :: es) [] pos) (tVeI X.K ta) := by
  obtain ⟨M, mc, hm, hr, hf⟩ := B.ex
  refine ⟨fun pins s σ H Q I h => ?_⟩
  refine PySem.W.methodCall_KW (ld_glob I hg hm ?_ hdb) hc
  refine PySem.W.method_cls I.kIn hr.ga (PySem.W.cls_value I.kIn hr.rd hf (by decide +kernel) ?_)
  show wpAny _ _ (callWith pos (Value.builtin "ValueError.__init__") [] (backTo pos (starEach (e :: es) X.env)) []) _ _ _
  refine PyProof.Rows.callWith_method1 (thn (ha.run pos pins _ σ H _ (I.tok _) h) fun us s1 ⟨vs, H1, I1, r1, a, C, ws, ev, hl, T, ea, q⟩ => ?_) he hpl
  subst ev
  cases r1 with
  | @cons _ u0 _ ur ra rw' =>
    obtain rfl : u0 = Value.ref a := ra
    have hlen : ur.length ≤ sizeLine := by
      rw [← Paired.length rw', sizeLine_eq]
      omega
    exact oinit_ok T I1 ea hlen fun s' J => ⟨.non, H1, J, rfl, q⟩
end
noncomputable def tI1 (K : PySem.W.Frag) (t : Str) (f : Str) : TS := tSeq (tDrop (tVeI K (tCons (tVar 0) (tCons (tC (.str t)) tNil)))) (tOst K f (tVar 0) (tVar 1))
noncomputable def tI2 (K : PySem.W.Frag) (t : Str) (f g : Str) : TS := tSeq (tDrop (tVeI K (tCons (tVar 0) (tCons (tC (.str t)) tNil)))) (tSeq (tOst K f (tVar 0) (tVar 1)) (tOst K g (tVar 0) (tVar 2)))
section
variable {P : Program} {w : World} {K : PySem.W.Frag} {mg : Str → Option Value} {base : Heap} {qual : Str} {st : Stmt} {f : Addr} {fd : FuncData} {k : Nat} {a0 n1 n2 t : Str}
theorem init1 (F : Fun K "__init__" qual st f fd) (S : FnScope [a0, n1] [a0, n1] (defScope st))
    (hb : ∀ (cdv : Value) (A : Around) (outer : List Env) (s : Shared) (H : Hp) (E : XK), PSs (cxOf CX0 P w K mg base [a0, n1] qual (defScope st) f cdv A outer s H E).nox (defBody st) (tI1 K t n1)) :
    FnOk P w K mg base CX0 (k + 1) f fd [a0, n1] (spI K [n1]) := by
  refine F.ok S (fun vs H Q E h => h.1) fun cdv A outer s H vs Q E hr hsp => ⟨_, hb cdv A outer s H E, ?_⟩
  obtain ⟨hl, a, C, ws, rfl, T, hf, ea, q⟩ := hsp
  match ws, hl with
  | [y], _ =>
    refine ⟨.ref a, rfl, a, C, [.str t], rfl, by simp, T, ea, ?_⟩
    refine ⟨y, rfl, .ref a, rfl, a, C, rfl, T, hf n1 (by simp), .inl ⟨ea, fun dx hn hne => ?_⟩⟩
    refine q dx _ hn hne upd_same (by rw [upd_ne hne, upd_same]; rfl) fun b h1 h2 => ?_
    rw [upd_ne h1, upd_ne h2]
theorem init2 (F : Fun K "__init__" qual st f fd) (S : FnScope [a0, n1, n2] [a0, n1, n2] (defScope st))
    (hb : ∀ (cdv : Value) (A : Around) (outer : List Env) (s : Shared) (H : Hp) (E : XK), PSs (cxOf CX0 P w K mg base [a0, n1, n2] qual (defScope st) f cdv A outer s H E).nox (defBody st) (tI2 K t n1 n2)) :
    FnOk P w K mg base CX0 (k + 1) f fd [a0, n1, n2] (spI K [n1, n2]) := by
  refine F.ok S (fun vs H Q E h => h.1) fun cdv A outer s H vs Q E hr hsp => ⟨_, hb cdv A outer s H E, ?_⟩
  obtain ⟨hl, a, C, ws, rfl, T, hf, ea, q⟩ := hsp
  match ws, hl with
  | [y, z], _ =>
    refine ⟨.ref a, rfl, a, C, [.str t], rfl, by simp, T, ea, ?_⟩
    refine ⟨y, rfl, .ref a, rfl, a, C, rfl, T, hf n1 (by simp), .inl ⟨ea, fun dx hn hne => ?_⟩⟩
    refine ⟨z, rfl, .ref a, rfl, a, C, rfl, T, hf n2 (by simp), .inr ⟨dx, [(n1, y)], upd_same, by rw [upd_ne hne, upd_same], by simp, ?_⟩⟩
    refine q dx _ hn hne (by rw [upd_ne hne.symm, upd_same]) (by rw [upd_same]; rfl) fun b h1 h2 => ?_
    rw [upd_ne h2, upd_ne h1, upd_ne h2]
end
/-! ### what is made -/
/-- a class that is an exception's, its fields -/
structure ExcI (P : Program) (w : World) (K : PySem.W.Frag) (mg : Str → Option Value) (base : Heap) (c : Str) (ns : List Str) : Prop where
  ex : ∃ (C fI : Addr) (fd : FuncData) (ps : List Str), mg c = some (.ref C) ∧ OexC K C ∧ PySem.W.findIn K (.ref C) "__init__" = some (some (.ref fI)) ∧ PySem.W.typeIn K (.ref fI) = some (.type "function") ∧ (∀ f ∈ ns, PySem.W.findIn K (.ref C) f = some none) ∧
    (∀ k, FnOk P w K mg base CX0 (k + 1) fI fd ps (spI K ns)) ∧ Binds K fd ps [] ∧ ps.length = ns.length + 1
section
variable {X : Cx} {W : WX} {kp : Nat → Bool} {x : Str} {e : Expr} {es : List Expr} {ta : TA} {p pos : Pos} {ns : List Str} {n : Nat}
theorem zip_rev {α β : Type} {xs : List α} {ys : List β} (h : xs.length = ys.length) : (xs.zip ys).reverse = xs.reverse.zip ys.reverse := by
  induction xs generalizing ys with
  | nil => cases ys <;> simp at h ⊢
  | cons x xs ih =>
    cases ys with
    | nil => simp at h
    | cons y ys =>
      have h : xs.length = ys.length := by simpa using h
      rw [List.zip_cons_cons, List.reverse_cons, ih h, List.reverse_cons, List.reverse_cons, List.zip_append (by simp [h])]
      rfl
/-! ### classes without fields -/
structure ExcT (K : PySem.W.Frag) (mg : Str → Option Value) (c : Str) : Prop where
  ex : ∃ C : Addr, mg c = some (.ref C) ∧ PySem.W.excIn K C [.type "ValueError", .type "Exception", .type "BaseException", .type "object"] "ValueError.__new__" = true ∧ PySem.W.keepIn K (.ref C) = true ∧ PySem.W.subIn K (.ref C) (.type "BaseException") = some true ∧ PySem.W.typeIn K (.ref C) = some (.type "type")
end

/-! ### the library's rule, for clauses with and without a name -/
/-- where a clause stores the exception -/
noncomputable def hσ (nm : Option Nat) (a : Addr) (σ : St) : St := match nm with
  | some i => σ.set i (some (.ref a))
  | none => σ
/-- .. and forgets it -/
noncomputable def hω (nm : Option Nat) (σ : St) : St := match nm with
  | some i => σ.set i none
  | none => σ
section
variable {X : Cx} {pn : List (Addr × Obj)} {σ : St} {H : Hp} {s' : Shared} {h3 : Heap} {t3 : Nat} {a : Addr} {oe : Obj} {cls : Value} {b : Bool}
end
section
variable {X : Cx} {body : List Stmt} {h₀ : ExceptHandler} {hds : List ExceptHandler} {l : List (List Value × Option Nat × (Addr → Value → Option Addr → TS))} {pos : Pos} {tb : WX → TS} {Wout : WX}
end

/-! ### a thing, the exception in hand forgotten -/
mutual
noncomputable def M.calm : M → M
  | .exn _ => .d .any
  | .seq ms => .seq (M.calms ms)
  | .box ms => .box (M.calms ms)
  | .ob c ns ms => .ob c ns (M.calms ms)
  | m => m
noncomputable def M.calms : List M → List M
  | [] => []
  | m :: ms => m.calm :: M.calms ms
end
mutual
/-- where nothing is handled there is no exception in hand -/
theorem RepM.up {K K' : KG} {H F : Hp} {O : OW} (h0 : K.xn = none) (h1 : K.k = K'.k) (h2 : K.cl = K'.cl) : ∀ {m : M} {q : Pl} {v : V}, RepM K H F O q v m → RepM K' H F O q v m
  | .d x, q, v, h => RepD.cx h1 h2 h
  | .lst ds, q, v, h => by
    obtain ⟨a, vs, e, ho, hh, r⟩ := h
    exact ⟨a, vs, e, ho, hh, r.cx h1 h2⟩
  | .dk kd, q, v, h => by
    obtain ⟨a, ks, vs, ds, e, ho, hh, el, r, ek⟩ := h
    exact ⟨a, ks, vs, ds, e, ho, hh, el, r.cx h1 h2, ek⟩
  | .dt kd, q, v, h => by
    obtain ⟨a, ks, vs, ds, e, ho, hh, el, r, ek⟩ := h
    exact ⟨a, ks, vs, ds, e, ho, hh, el, r.cx h1 h2, ek⟩
  | .seq ms, q, v, h => by
    obtain ⟨a, vs, e, ho, hh, r⟩ := h
    exact ⟨a, vs, e, ho, hh, RepMs.up h0 h1 h2 r⟩
  | .box ms, q, v, h => by
    obtain ⟨a, vs, e, ht, r⟩ := h
    exact ⟨a, vs, e, ht, RepMs.up h0 h1 h2 r⟩
  | .ob c ns ms, q, v, h => by
    obtain ⟨a, C, dx, vs, e, ho, hc, hh, el, r⟩ := h
    exact ⟨a, C, dx, vs, e, ho, h2 ▸ hc, hh, el, RepMs.up h0 h1 h2 r⟩
  | .exn x, q, v, h => by
    obtain ⟨a, cls, d, e1, e2, r⟩ := h
    rw [h0] at e1
    cases e1
theorem RepMs.up {K K' : KG} {H F : Hp} {O : OW} (h0 : K.xn = none) (h1 : K.k = K'.k) (h2 : K.cl = K'.cl) : ∀ {ms : List M} {q : Pl} {n : Nat} {vs : List V}, RepMs K H F O q n vs ms → RepMs K' H F O q n vs ms
  | [], q, n, vs, h => h
  | m :: ms, q, n, vs, h => by
    obtain ⟨v, vs', e, h3, h4⟩ := h
    exact ⟨v, vs', e, RepM.up h0 h1 h2 h3, RepMs.up h0 h1 h2 h4⟩
end
theorem RepX.cx {K K' : KG} {F : Hp} {x : Exn} {cls : Value} {d : Option Addr} (h1 : K.k = K'.k) (h2 : K.cl = K'.cl) (h : RepX K F x cls d) : RepX K' F x cls d := by
  obtain ⟨C, a1, a2, a3⟩ := h
  refine ⟨C, h2 ▸ a1, a2, ?_⟩
  rcases a3 with a3 | ⟨dd, ns, vs, ds, e1, e2, e3, e4, e5⟩
  · exact .inl a3
  · exact .inr ⟨dd, ns, vs, ds, e1, e2, e3, e4.cx h1 h2, e5⟩

/-! ### clauses -/
/-- what is known of the classes: is the one the other, or above it? -/
noncomputable abbrev Isa := Str → Str → Option Bool
noncomputable def anyIs (isa : Isa) (c : Str) : List Str → Option Bool
  | [] => some false
  | d :: ds => match isa c d, anyIs isa c ds with
    | some b, some b' => some (b || b')
    | _, _ => none
noncomputable def onS (nm : Option Nat) (x : Exn) (S : SS) : SS := match nm with
  | some i => S.set i (some (.exn x))
  | none => S
noncomputable def R.hand {α : Type} (r : R α) (k : Exn → SS → R α) : R α := match r with
  | .ok a S => .ok a S
  | .ex x S => k x S
  | .no => .no
structure IsaF (K : PySem.W.Frag) (mg : Str → Option Value) (c d : Str) (b : Bool) : Prop where
  ex : ∃ C D : Addr, mg c = some (.ref C) ∧ mg d = some (.ref D) ∧ PySem.W.exmOne K (.ref C) (.ref D) = some b ∧ PySem.W.kitOne K (.ref C) (.ref D) = some b
noncomputable def IsaG (K : PySem.W.Frag) (mg : Str → Option Value) (isa : Isa) : Prop := ∀ c d b, isa c d = some b → IsaF K mg c d b
/-- all the classes that are named are there -/
noncomputable def ClsG (mg : Str → Option Value) (cs : List Str) : Prop := ∀ c ∈ cs, ∃ C : Addr, mg c = some (.ref C)
/-- a class's place -/
noncomputable def adr (mg : Str → Option Value) (c : Str) : Addr := (clsOf mg c).getD 0
theorem adr_of {mg : Str → Option Value} {c : Str} (h : ∃ C : Addr, mg c = some (.ref C)) : mg c = some (.ref (adr mg c)) := by
  obtain ⟨C, h⟩ := h
  unfold adr
  rw [clsOf_ref h]
  exact h
section
variable {X : Cx} {kp : Nat → Bool} {isa : Isa} {W : WX}
theorem Rp.on {K K' : KG} {H F : Hp} {O : OW} {σ : St} {S : SS} {a : Addr} {cls : Value} {d : Option Addr} {x : Exn} {nm : Option Nat} (h0 : K.xn = none) (h1 : K.k = K'.k) (h2 : K.cl = K'.cl) (h3 : K'.xn = some (a, cls, d)) (rx : RepX K F x cls d) (r : Rp K H F O σ S) :
    Rp K' H F O (hσ nm a σ) (onS nm x S) := by
  have base : Rp K' H F O σ S := ⟨r.bs, r.len, fun i m e => by
    obtain ⟨v, hv, rm⟩ := r.sl i m e
    exact ⟨v, hv, rm.up h0 h1 h2⟩⟩
  cases nm with
  | none => exact base
  | some i =>
    refine ⟨r.bs, by show (S.set i _).length = (σ.set i _).length; rw [List.length_set, List.length_set]; exact r.len, fun j m e => ?_⟩
    rcases SS.at_set e with ⟨e1, e2⟩ | ⟨ne, e⟩
    · subst e1
      cases e2
      have hl : i < σ.length := by
        rw [← r.len]
        unfold SS.at at e
        by_cases z : i < S.length
        · exact z
        · rw [List.getElem?_eq_none (by show (S.set i _).length ≤ i; rw [List.length_set]; omega)] at e; cases e
      exact ⟨.ref a, by show (σ.set i _)[i]? = _; rw [List.getElem?_set_self hl], a, cls, d, h3, rfl, rx.cx h1 h2⟩
    · obtain ⟨v, hv, rm⟩ := base.sl j m e
      exact ⟨v, by show (σ.set i _)[j]? = _; rw [List.getElem?_set_ne ne]; exact hv, rm⟩
theorem Kp.on {σ σ' : St} {nm : Option Nat} {a : Addr} (h : Kp kp (hσ nm a σ) σ') (hk : ∀ i, nm = some i → kp i = false) : Kp kp σ (hω nm σ') := by
  cases nm with
  | none => exact h
  | some i =>
    have h : Kp kp (σ.set i (some (.ref a))) σ' := h
    exact ((Kp.set (hk i rfl)).trans h).trans (Kp.set (hk i rfl))
end

/-- c is an exception's class, as isinstance and fields ask it -/
structure ExcF (K : PySem.W.Frag) (mg : Str → Option Value) (c : Str) : Prop where
  ex : ∃ C : Addr, mg c = some (.ref C) ∧ ExcC K C
structure FldF (K : PySem.W.Frag) (mg : Str → Option Value) (c f : Str) : Prop where
  ex : ∃ C : Addr, mg c = some (.ref C) ∧ PySem.W.findIn K (.ref C) f = some none
structure IsbF (K : PySem.W.Frag) (mg : Str → Option Value) (c : Str) (T : String) (b : Bool) : Prop where
  ex : ∃ C : Addr, mg c = some (.ref C) ∧ PySem.W.kitOne K (.ref C) (.type T) = some b
/-- what is known of the classes whose exceptions may be in hand -/
structure XcG (K : PySem.W.Frag) (mg : Str → Option Value) (cs : List Str) : Prop where
  ex : ∀ c ∈ cs, ExcF K mg c
noncomputable def FlG (K : PySem.W.Frag) (mg : Str → Option Value) (xf : List (Str × Str)) : Prop := ∀ p ∈ xf, FldF K mg p.1 p.2
noncomputable def IsbG (K : PySem.W.Frag) (mg : Str → Option Value) (xb : List (Str × String × Bool)) : Prop := ∀ p ∈ xb, IsbF K mg p.1 p.2.1 p.2.2
section
variable {X : Cx} {a : Addr} {oe : Obj} {pn : List (Addr × Obj)} {e : Expr} {pos : Pos}
/-! ### e.f -/
theorem clsOf_iv {mg : Str → Option Value} {c : Str} {C : Addr} (h : clsOf mg c = some C) : mg c = some (.ref C) := by
  unfold clsOf at h
  split at h
  · rename_i e; cases h; exact e
  · cases h
/-! ### isinstance(e, ..) -/
theorem isa_kit {isa : Isa} (hI : IsaG X.K X.mg isa) {c : Str} {C : Addr} (hm : X.mg c = some (.ref C)) : ∀ {ds : List Str} {b : Bool}, anyIs isa c ds = some b → PySem.W.kitAny X.K (.ref C) (ds.map fun d => Value.ref (adr X.mg d)) = some b
  | [], b, h => h
  | d :: ds, b, h => by
    unfold anyIs at h
    cases e1 : isa c d with
    | none => rw [e1] at h; cases h
    | some b1 =>
      cases e2 : anyIs isa c ds with
      | none => rw [e1, e2] at h; cases h
      | some b2 =>
        rw [e1, e2] at h
        cases h
        obtain ⟨C', D, h1, h2, _, h3⟩ := (hI c d b1 e1).ex
        rw [hm] at h1
        cases h1
        have hd := adr_of ⟨D, h2⟩
        rw [h2] at hd
        cases hd
        show PySem.W.kitAny X.K (.ref C) (.ref (adr X.mg d) :: ds.map fun c => Value.ref (adr X.mg c)) = _
        unfold PySem.W.kitAny
        rw [h3]
        cases b1 with
        | true => rfl
        | false => exact isa_kit hI hm e2
variable {isa : Isa} {cs : List Str} {i : Nat} {p : Pos}
theorem pe_clsN {Y : Cx} {d : Str} {C : Addr} {pos : Pos} (hg : Gl Y d) (hm : Y.mg d = some (.ref C)) (hdb : (d == ("__debug__" : Str)) = false) : PE Y (.Name d pos) (tC (.ref C)) := pe_glob hg hm rfl hdb
end

noncomputable def R.wpx0 {α : Type} (r : R α) (Q : α → SS → Prop) (E : Exn → SS → Prop) : Prop := match r with
  | .ok a S => Q a S
  | .ex x S => E x S
  | .no => False
noncomputable def CR.wpx0 (r : CR) (Q : M → List (Option M) → Prop) (E : Exn → List (Option M) → Prop) : Prop := match r with
  | .ok a S => Q a S
  | .ex x S => E x S
  | .no => False
@[irreducible] noncomputable def R.wpx {α : Type} (r : R α) (Q : α → SS → Prop) (E : Exn → SS → Prop) (_ : Ph Q := ⟨⟩) : Prop := R.wpx0 r Q E
@[irreducible] noncomputable def CR.wpx (r : CR) (Q : M → List (Option M) → Prop) (E : Exn → List (Option M) → Prop) (_ : Ph Q := ⟨⟩) : Prop := CR.wpx0 r Q E
section
variable {α β : Type}
theorem R.wpx_eq (r : R α) (Q : α → SS → Prop) (E : Exn → SS → Prop) (p : Ph Q) : R.wpx r Q E p = R.wpx0 r Q E := by unfold R.wpx; rfl
theorem CR.wpx_eq (r : CR) (Q : M → List (Option M) → Prop) (E : Exn → List (Option M) → Prop) (p : Ph Q) : CR.wpx r Q E p = CR.wpx0 r Q E := by unfold CR.wpx; rfl
@[simp] theorem wpx_ok (a : α) (S : SS) (Q : α → SS → Prop) (E : Exn → SS → Prop) : R.wpx (.ok a S) Q E = Q a S := by rw [R.wpx_eq]; rfl
@[simp] theorem wpx_ex (x : Exn) (S : SS) (Q : α → SS → Prop) (E : Exn → SS → Prop) : R.wpx (.ex x S) Q E = E x S := by rw [R.wpx_eq]; rfl
@[simp] theorem wpx_no (Q : α → SS → Prop) (E : Exn → SS → Prop) : R.wpx .no Q E = False := by rw [R.wpx_eq]; rfl
@[simp] theorem cwpx_ok (a : M) (S : List (Option M)) (Q : M → List (Option M) → Prop) (E : Exn → List (Option M) → Prop) : CR.wpx (.ok a S) Q E = Q a S := by rw [CR.wpx_eq]; rfl
@[simp] theorem cwpx_ex (x : Exn) (S : List (Option M)) (Q : M → List (Option M) → Prop) (E : Exn → List (Option M) → Prop) : CR.wpx (.ex x S) Q E = E x S := by rw [CR.wpx_eq]; rfl
@[simp] theorem cwpx_no (Q : M → List (Option M) → Prop) (E : Exn → List (Option M) → Prop) : CR.wpx .no Q E = False := by rw [CR.wpx_eq]; rfl
@[simp] theorem wpx_bind (r : R α) (f : α → SS → R β) (Q : β → SS → Prop) (E : Exn → SS → Prop) : R.wpx (r.bind f) Q E = R.wpx r (fun a S => R.wpx (f a S) Q E) E := by
  cases r with
  | ok a S => rw [bind_ok, wpx_ok]
  | ex _ _ => rw [bind_ex, wpx_ex, wpx_ex]
  | no => rw [bind_no, wpx_no, wpx_no]
@[simp] theorem wpx_nx (f : SS → R α) (S : SS) (Q : α → SS → Prop) (E : Exn → SS → Prop) : R.wpx (nx f S) Q E = R.wp (f S) Q := by
  unfold nx
  cases f S with
  | ok a S => rw [wpx_ok, wp_ok]
  | ex _ _ => rw [wpx_no, wp_ex]
  | no => rw [wpx_no, wp_no]
@[simp] theorem wp_nx (f : SS → R α) (S : SS) (Q : α → SS → Prop) : R.wp (nx f S) Q = R.wp (f S) Q := by
  unfold nx
  cases f S with
  | ok a S => rfl
  | ex _ _ => rw [wp_no, wp_ex]
  | no => rfl
end
@[simp] theorem toR_ex (x : Exn) (S : List (Option M)) (h : List (Option M) → SS) : CR.toR (.ex x S) h = .ex x (h S) := (rfl)
@[simp] theorem wpx_toR (c : CR) (h : List (Option M) → SS) (Q : M → SS → Prop) (E : Exn → SS → Prop) : R.wpx (c.toR h) Q E = c.wpx (fun r fin => Q r (h fin)) (fun x fin => E x (h fin)) := by rw [R.wpx_eq, CR.wpx_eq]; cases c <;> rfl
@[simp] theorem wpx_hand {α : Type} (r : R α) (k : Exn → SS → R α) (Q : α → SS → Prop) (E : Exn → SS → Prop) : R.wpx (r.hand k) Q E = R.wpx r Q (fun x S => R.wpx (k x S) Q E) := by
  cases r with
  | ok a S => show R.wpx (.ok a S) Q E = _; rw [wpx_ok, wpx_ok]
  | ex x S => show R.wpx (k x S) Q E = _; rw [wpx_ex]
  | no => show R.wpx .no Q E = _; rw [wpx_no, wpx_no]
@[simp] theorem wp_hand {α : Type} (r : R α) (k : Exn → SS → R α) (Q : α → SS → Prop) : R.wp (r.hand k) Q = R.wpx r Q (fun x S => R.wp (k x S) Q) := by
  cases r with
  | ok a S => show R.wp (.ok a S) Q = _; rw [wp_ok, wpx_ok]
  | ex x S => show R.wp (k x S) Q = _; rw [wpx_ex]
  | no => show R.wp .no Q = _; rw [wp_no, wpx_no]
@[simp] theorem anyIs_nil (isa : Isa) (c : Str) : anyIs isa c [] = some false := (rfl)
@[simp] theorem anyIs_cons (isa : Isa) (c d : Str) (ds : List Str) : anyIs isa c (d :: ds) = match isa c d, anyIs isa c ds with
    | some b, some b' => some (b || b')
    | _, _ => none := (rfl)
@[simp] theorem onS_some (i : Nat) (x : Exn) (S : SS) : onS (some i) x S = S.set i (some (.exn x)) := (rfl)
@[simp] theorem onS_none (x : Exn) (S : SS) : onS none x S = S := (rfl)
@[simp] theorem calm_d (x : D) : M.calm (.d x) = .d x := (rfl)
@[simp] theorem calm_lst (x : List D) : M.calm (.lst x) = .lst x := (rfl)
@[simp] theorem calm_dk (x : List (Key × D)) : M.calm (.dk x) = .dk x := (rfl)
@[simp] theorem calm_dt (x : List (List Key × D)) : M.calm (.dt x) = .dt x := (rfl)
@[simp] theorem calm_seq (x : List M) : M.calm (.seq x) = .seq (M.calms x) := (rfl)
@[simp] theorem calm_box (x : List M) : M.calm (.box x) = .box (M.calms x) := (rfl)
@[simp] theorem calm_ob (c : Str) (ns : List Str) (x : List M) : M.calm (.ob c ns x) = .ob c ns (M.calms x) := (rfl)
@[simp] theorem calm_exn (x : Exn) : M.calm (.exn x) = .d .any := (rfl)
@[simp] theorem calms_nil : M.calms [] = [] := (rfl)
@[simp] theorem calms_cons (m : M) (ms : List M) : M.calms (m :: ms) = m.calm :: M.calms ms := (rfl)
@[simp] theorem own_exn (x : Exn) : M.own (.exn x) = false := (rfl)
@[simp] theorem toD_exn (x : Exn) : M.toD (.exn x) = .any := (rfl)
/-! ### a body's end; loops -/
/-- no exception comes out of the call -/
noncomputable def nxc (g : List M → CR) : List M → CR := fun ms => match g ms with
  | .ok m fin => .ok m fin
  | _ => .no
theorem nxc_ok {g : List M → CR} {ms : List M} {r : M} {fin : List (Option M)} (h : nxc g ms = .ok r fin) : g ms = .ok r fin := by
  unfold nxc at h
  cases e : g ms with
  | ok a b => rw [e] at h; cases h; rfl
  | ex a b => rw [e] at h; cases h
  | no => rw [e] at h; cases h
@[simp] theorem cwp_nxc (g : List M → CR) (ms : List M) (Q : M → List (Option M) → Prop) : CR.wp (nxc g ms) Q = CR.wp (g ms) Q := by
  unfold nxc
  cases e : g ms with
  | ok a b => rfl
  | ex a b => rw [CR.wp_eq, CR.wp_eq]; rfl
  | no => rfl
section
variable {P : Program} {w : World} {K : PySem.W.Frag} {mg : Str → Option Value} {base : Heap} {k n np : Nat} {f : Addr} {fd : FuncData} {ps : List Str} {x c m : Str} {g : List M → CR} {KK : KG}
theorem FnX.plain (F : FnX P w K mg base k f fd ps (spX KK np g)) : FnG P w K mg base k f fd ps (spD KK np (nxc g)) := by
  have up : ∀ vs H Q, (∃ E, spD KK np (nxc g) vs H Q E) → spX KK np g vs H Q (fun _ _ _ => False) := fun vs H Q ⟨E, F', O, ms, r, fin, h1, h2, h3, h4, h5, h6⟩ => .inl ⟨F', O, ms, r, fin, h1, h2, h3, h4, nxc_ok h5, h6⟩
  refine ⟨fun vs H Q E h => F.len vs H Q _ (up vs H Q ⟨E, h⟩), fun A outer s H args us vs Q E hr he hb hv hs => codeAny_mono (F.run A outer s H args us vs Q _ hr he hb hv (up vs H Q ⟨E, hs⟩)) fun r s' hq => ?_⟩
  cases r with
  | ok fl => cases fl <;> exact hq
  | error e =>
    obtain ⟨_, _, _, _, _, _, _, _, _, _, _, _, h⟩ := hq
    exact h.elim
theorem FnDx.plain (F : FnDx P w K mg base n x np g) : FnD P w K mg base n x np (nxc g) :=
  let ⟨f, fd, ps, h1, h2, h3, h4, h5⟩ := F.ex
  ⟨f, fd, ps, h1, h2.plain, h3, h4, h5⟩
theorem FnMx.plain (F : FnMx P w K mg base n c m np g) : FnM P w K mg base n c m np (nxc g) :=
  let ⟨C, f, fd, ps, h1, h2, h3, h4, h5, h6⟩ := F.ex
  ⟨C, f, fd, ps, h1, h2, h3, h4, h5.plain, h6⟩
theorem FnIx.plain (F : FnIx P w K mg base n c np g) : FnI P w K mg base n c np (nxc g) := by
  obtain ⟨C, f, h1, h2, h3⟩ := F.ex
  rcases h3 with h | ⟨k, fd, ps, e1, e2, e3, e4⟩
  · exact ⟨.inl fun ms => by unfold nxc; rw [h ms]⟩
  · exact ⟨.inr ⟨k, C, f, fd, ps, e1, h1, h2, e2, e3.plain, e4⟩⟩
end
section
variable {K : PySem.W.Frag} {mg : Str → Option Value} {C D : Addr} {c d : Str} {b : Bool}
/-- a fact of two classes -/
theorem isaF_mk (h1 : mg c = some (.ref C)) (h2 : mg d = some (.ref D)) (hB : PySem.W.subIn K (.ref D) (.type "BaseException") = some true) (hd : PySem.W.hasDictIn K D = true) (ht : PySem.W.typeIn K (.ref D) = some (.type "type")) (hs : PySem.W.subIn K (.ref C) (.ref D) = some b)
    (hcc : PySem.W.subIn K (.ref C) (.ref C) = some true) : IsaF K mg c d b := by
  refine ⟨C, D, h1, h2, PySem.W.exm_ref hB hd ht hs, ?_⟩
  obtain ⟨cd, hc, _⟩ := PySem.W.any_some hd
  have e2 : ((PySem.W.clsIn K D).isSome && PySem.W.typeIn K (.ref D) == some (.type "type")) = true := by rw [hc, ht] <;> rfl
  unfold PySem.W.kitOne
  split
  · rename_i e
    have e := beq_iff_eq.mp e
    cases e
    rw [hcc] at hs
    exact hs
  · show (if ((PySem.W.clsIn K D).isSome && PySem.W.typeIn K (.ref D) == some (.type "type")) = true then PySem.W.subIn K (.ref C) (.ref D) else none) = some b
    rw [if_pos e2]
    exact hs
theorem isbF_mk {T : String} (h1 : mg c = some (.ref C)) (ht : PySem.W.kitMeta T = true) (hs : PySem.W.subIn K (.ref C) (.type T) = some true) : IsbF K mg c T true := by
  refine ⟨C, h1, ?_⟩
  unfold PySem.W.kitOne
  split
  · rfl
  · show (if PySem.W.kitMeta T = true then PySem.W.subIn K (.ref C) (.type T) else none) = some true
    rw [if_pos ht]
    exact hs
end
/-- a table of pairs as isa -/
noncomputable def isaL : List (Str × Str × Bool) → Isa
  | [], _, _ => none
  | (c, d, b) :: r, x, y => if x = c ∧ y = d then some b else isaL r x y
theorem isaL_nil {K : PySem.W.Frag} {mg : Str → Option Value} : IsaG K mg (isaL []) := fun _ _ _ h => nomatch h
theorem isaL_cons {K : PySem.W.Frag} {mg : Str → Option Value} {c d : Str} {b : Bool} {r : List (Str × Str × Bool)} (h : IsaF K mg c d b) (h2 : IsaG K mg (isaL r)) : IsaG K mg (isaL ((c, d, b) :: r)) := fun x y z e => by
  unfold isaL at e
  split at e
  · rename_i q
    obtain ⟨rfl, rfl⟩ := q
    cases e
    exact h
  · exact h2 x y z e
theorem FlG.nil {K : PySem.W.Frag} {mg : Str → Option Value} : FlG K mg [] := fun _ h => nomatch h
theorem FlG.cons {K : PySem.W.Frag} {mg : Str → Option Value} {c f : Str} {r : List (Str × Str)} (h : FldF K mg c f) (h2 : FlG K mg r) : FlG K mg ((c, f) :: r) := fun p hp => by
  rcases List.mem_cons.mp hp with rfl | hp
  · exact h
  · exact h2 p hp
theorem IsbG.nil {K : PySem.W.Frag} {mg : Str → Option Value} : IsbG K mg [] := fun _ h => nomatch h
theorem IsbG.cons {K : PySem.W.Frag} {mg : Str → Option Value} {c : Str} {T : String} {b : Bool} {r : List (Str × String × Bool)} (h : IsbF K mg c T b) (h2 : IsbG K mg r) : IsbG K mg ((c, T, b) :: r) := fun p hp => by
  rcases List.mem_cons.mp hp with rfl | hp
  · exact h
  · exact h2 p hp
theorem XcG.nil {K : PySem.W.Frag} {mg : Str → Option Value} : XcG K mg [] := ⟨fun _ h => nomatch h⟩
theorem XcG.cons {K : PySem.W.Frag} {mg : Str → Option Value} {c : Str} {r : List Str} (h : ExcF K mg c) (h2 : XcG K mg r) : XcG K mg (c :: r) := ⟨fun p hp => by
  rcases List.mem_cons.mp hp with rfl | hp
  · exact h
  · exact h2.ex p hp⟩
theorem ClsG.nil {mg : Str → Option Value} : ClsG mg [] := fun _ h => nomatch h
theorem ClsG.cons {mg : Str → Option Value} {c : Str} {C : Addr} {r : List Str} (h : mg c = some (.ref C)) (h2 : ClsG mg r) : ClsG mg (c :: r) := fun p hp => by
  rcases List.mem_cons.mp hp with rfl | hp
  · exact ⟨C, h⟩
  · exact h2 p hp
/-! ### the rows of classes: a tuple of their names -/
section
variable {X : Cx} {mg : Str → Option Value}
end

mutual
noncomputable def D.pyx : D → PyData
  | .dk _ => .dict []
  | .tup xs => .tuple (D.pyxs xs)
  | .bl b => .bool b
  | .int i => .int i
  | .str x => .str x
  | _ => .none
noncomputable def D.pyxs : List D → List PyData
  | [] => []
  | x :: xs => D.pyx x :: D.pyxs xs
end
mutual
noncomputable def D.plx : D → Bool
  | .dk kvs => kvs.isEmpty
  | .tup xs => D.plxs xs
  | .bl _ => true
  | .int _ => true
  | .str _ => true
  | .non => true
  | _ => false
noncomputable def D.plxs : List D → Bool
  | [] => true
  | x :: xs => D.plx x && D.plxs xs
end
noncomputable def rpx (d : D) : Str := d.pyx.shown
noncomputable def rpxOk (d : D) : Bool := d.plx && d.pyx.showable && decide (d.pyx.depth ≤ 190) && decide ((rpx d).length ≤ 16777216)
noncomputable def reprX : D → Option M
  | .tup xs => if rpxOk (.tup xs) = true then some (.d (.str (rpx (.tup xs)))) else none
  | _ => none
noncomputable def reprE (d : D) : Option M := match reprD d with
  | some m => some m
  | none => reprX d
section
variable {X : Cx} {pins : List (Addr × Obj)} {s : Shared} {σ : St} {H F : Hp}
mutual
theorem RepD.readsX (I : Inv X pins σ H s) (l : Le F H) : ∀ (d : D) (v : V) (u : Value), d.plx = true → RepD (kg X) F v d → RelV v u → ∃ as, Reads s.heap u d.pyx as ∧ sysModules ∉ as
  | .non, _, _, _, h, r => by cases h; cases r; exact ⟨_, Reads.none, by simp⟩
  | .bl b, _, _, _, h, r => by cases h; cases r; exact ⟨_, Reads.bool b, by simp⟩
  | .int i, _, _, _, h, r => by cases h; obtain ⟨t, rfl⟩ := r; exact ⟨_, Reads.int i t, by simp⟩
  | .str x, _, _, _, h, r => by cases h; obtain ⟨t, rfl⟩ := r; exact ⟨_, Reads.str x t, by simp⟩
  | .tup xs, _, _, hp, h, r => by
    obtain ⟨a, vs, rfl, hs, rs⟩ := View.tuple l (View.fz h)
    cases r
    obtain ⟨its, rv, ⟨o, ho, hc, n, hd⟩, _⟩ := I.tuple hs
    obtain ⟨as, hr, hn⟩ := RepD.readsXs I l xs vs its hp rs rv
    exact ⟨as, Reads.tuple ho hc hd hr, hn⟩
  | .dk kvs, _, _, hp, h, r => by
    have hk : kvs = [] := List.isEmpty_iff.mp hp
    subst hk
    obtain ⟨a, ks, vs, ds, rfl, hrd, hl, rs, hz⟩ := View.dict l (View.fz h)
    cases r
    have : ks = [] := by
      cases ks with
      | nil => rfl
      | cons k ks =>
        cases rs with
        | nil => cases hl
        | cons _ _ => cases hz
    subst this
    obtain ⟨_, hsm, ws, hkv, o, es, ep, ho, hx, hd, _, hpr, _⟩ := dk_rd I.hok hrd
    have hw : ws = [] := by
      unfold KV at hkv
      cases hkv
      rfl
    subst hw
    have he : es.toList = [] := by
      generalize es.toList = L at hpr
      cases hpr
      rfl
    refine ⟨a :: [] ++ [], Reads.dict ho hx.1 hd (kvs := []) ?_ ?_, ?_⟩
    · rw [he]; exact ReadsAll.nil
    · rw [he]; exact ReadsAll.nil
    · rw [List.append_nil, List.mem_singleton]
      exact fun e => (beq_eq_false_iff_ne.mp hsm) e.symm
theorem RepD.readsXs (I : Inv X pins σ H s) (l : Le F H) : ∀ (ds : List D) (vs : List V) (us : List Value), D.plxs ds = true → RepDs (kg X) F vs ds → Vals vs us → ∃ as, ReadsAll s.heap us (D.pyxs ds) as ∧ sysModules ∉ as
  | [], _, _, _, .nil, .nil => ⟨_, ReadsAll.nil, by simp⟩
  | d :: ds, _, _, hp, .cons h hs, .cons r rs => by
    have hp : (D.plx d && D.plxs ds) = true := hp
    rw [Bool.and_eq_true] at hp
    obtain ⟨as, q1, n1⟩ := RepD.readsX I l d _ _ hp.1 h r
    obtain ⟨bs, q2, n2⟩ := RepD.readsXs I l ds _ _ hp.2 hs rs
    exact ⟨_, ReadsAll.cons q1 q2, fun z => (List.mem_append.mp z).elim n1 n2⟩
end
end
section
variable {X : Cx}
theorem cd_reprE {n : Nat} (hr : RoomG n X.A) : CallR X (.builtin "repr") (semC (kg X) (on1 reprE)) := call1 fun pins s σ H F v x us m Q I r l wx e wi => by
  cases ed : reprD x with
  | some m0 =>
    have e : reprE x = some m := e
    unfold reprE at e
    rw [ed] at e
    cases e
    exact cd_repr hr pins s σ H [v] us Q I r ⟨F, [x], m, l, .cons wx .nil, ed, wi⟩
  | none =>
    have e : reprE x = some m := e
    unfold reprE at e
    rw [ed] at e
    cases x with
    | tup ds =>
      have e : (if rpxOk (.tup ds) = true then some (M.d (.str (rpx (.tup ds)))) else none) = some m := e
      split at e
      · rename_i h
        cases e
        unfold rpxOk at h
        rw [Bool.and_eq_true, Bool.and_eq_true, Bool.and_eq_true] at h
        obtain ⟨⟨⟨h1, h2⟩, h3⟩, h4⟩ := h
        have h3 := of_decide_eq_true h3
        have h4 := of_decide_eq_true h4
        obtain ⟨a, vs, rfl, hsq, rd⟩ := wx.tuple l
        obtain ⟨u, rfl, rv⟩ := vals1 r
        obtain rfl : u = Value.ref a := rv
        have rr : RepD (kg X) F (.ref a) (.tup ds) := by
          cases wx with
          | fz h => exact h
        obtain ⟨as, R, hn⟩ := RepD.readsX I l (.tup ds) (.ref a) (.ref a) h1 rr rfl
        have un := hr.rm.un
        refine PySem.repr_of_reads' R h2 (fun _ => hn) hr.gd (by omega) (fun _ _ e => e) (fun h' u tk hk => ?_) (by rw [sizeLine_eq]; exact h4)
        exact ⟨.str _, H, I.kept hk, ⟨u, rfl⟩, wi.str⟩
      · cases e
    | _ => cases e
end
theorem reprE_of {d : D} {m : M} (h : reprD d = some m) : reprE d = some m := by unfold reprE; rw [h]
section
variable {prog : Program} {w : World} {A : Around} {E : Value → Shared → Prop} {s : Shared}
end
section
variable {X : Cx}
end
section
variable {X : Cx} {kp : Nat → Bool} {e : Expr} {pos pt : Pos} {x y : Str} {px py ps : Pos} {kt : Nat}
end
/-- where a parameter's value comes from: the i-th positional one, the i-th keyword's, the i-th default that lacks (a constant) -/
inductive Arr | p (i : Nat) | k (i : Nat) | c (i : Nat) (d : D)
noncomputable def cV : D → V
  | .int i => .int i
  | .str x => .str x
  | .bl b => .bl b
  | _ => .non
noncomputable def arV1 (vs zs : List V) : Arr → List V
  | .p i => vs[i]?.toList
  | .k i => zs[i]?.toList
  | .c _ d => [cV d]
noncomputable def arV (as : List Arr) (vs zs : List V) : List V := as.flatMap (arV1 vs zs)
/-- a way to call -/
structure KBx (K : PySem.W.Frag) (fd : FuncData) (ps : List Str) (n : Nat) (ks : List Str) (as : List Arr) : Prop where
  ex : ∃ g, KBn K fd ps n ks g (arV as)
theorem PK.imp {X : Cx} {kws : List Keyword} {t t' : TA} (h : PK X kws t) (hm : ∀ σ H Q, t' σ H Q → t σ H Q) : PK X kws t' := ⟨fun pos pins s σ H Q I q => h.run pos pins s σ H Q I (hm σ H Q q)⟩
section
variable {X : Cx} {e : Expr} {kws : List Keyword} {kpos : Pos} {nm : Option Str}
end
/-- a def with keyword-only parameters: ways tells how it may be called -/
structure FnK (P : Program) (w : World) (K : PySem.W.Frag) (mg : Str → Option Value) (base : Heap) (n : Nat) (x : Str) (np : Nat) (ways : List (Nat × List Str × List Arr)) (g : List M → CR) : Prop where
  ex : ∃ (f : Addr) (fd : FuncData) (ps : List Str), ps.length = np ∧ FnG P w K mg base n f fd ps (spD (kg0 K mg) np g) ∧ mg x = some (.ref f) ∧ PySem.W.keepIn K (.ref f) = true ∧ ∀ q ∈ ways, KBx K fd ps q.1 q.2.1 q.2.2
structure FnKx (P : Program) (w : World) (K : PySem.W.Frag) (mg : Str → Option Value) (base : Heap) (n : Nat) (x : Str) (np : Nat) (ways : List (Nat × List Str × List Arr)) (g : List M → CR) : Prop where
  ex : ∃ (f : Addr) (fd : FuncData) (ps : List Str), ps.length = np ∧ FnX P w K mg base n f fd ps (spX (kg0 K mg) np g) ∧ mg x = some (.ref f) ∧ PySem.W.keepIn K (.ref f) = true ∧ ∀ q ∈ ways, KBx K fd ps q.1 q.2.1 q.2.2
theorem FnKx.plain {P : Program} {w : World} {K : PySem.W.Frag} {mg : Str → Option Value} {base : Heap} {n np : Nat} {x : Str} {ways : List (Nat × List Str × List Arr)} {g : List M → CR} (F : FnKx P w K mg base n x np ways g) : FnK P w K mg base n x np ways (nxc g) :=
  let ⟨f, fd, ps, h1, h2, h3, h4, h5⟩ := F.ex
  ⟨f, fd, ps, h1, h2.plain, h3, h4, h5⟩
section
variable {X : Cx} {W : WX} {k n np : Nat} {f : Addr} {fd : FuncData} {ps ks : List Str} {sp : Sp} {E : XK} {x : Str} {p pos : Pos} {e : Expr} {es : List Expr} {kws : List Keyword} {t tk : TA} {g : List Value → List Value → List Value} {gV : List V → List V → List V}
end
section
variable {X : Cx} {f : Value → Value → Sem Value}
end
/-! ### sorted(xs), xs a row of tuples -/
section
variable {X : Cx} {pins : List (Addr × Obj)} {s : Shared} {σ : St} {H F : Hp}
end
noncomputable def D.pyk (d : D) : PyData := if d.pl = true then d.py else d.pyx
noncomputable def D.itk (d : D) : Bool := d.pl || d.plx
noncomputable def D.pyks : List D → List PyData
  | [] => []
  | x :: xs => x.pyk :: D.pyks xs
noncomputable def rpk (ds : List D) : Str := listText (PyData.shownAll (D.pyks ds))
noncomputable def rpkOk (ds : List D) : Bool := ds.all D.itk && PyData.showableAll (D.pyks ds) && decide (PyData.depthAll (D.pyks ds) ≤ 180) && decide ((rpk ds).length ≤ 16777216)
noncomputable def reprF (d : D) : Option M := match reprE d with
  | some m => some m
  | none => match d with
    | .lst ds => if rpkOk ds = true then some (.d (.str (rpk ds))) else none
    | .dk kvs => if kvs.isEmpty = true then some (.d (.str (PyData.shown (.dict [])))) else none
    | .non => some (.d (.str "None"))
    | .int i => if i.natAbs.log2 < 1920 then some (.d (.str (toString i))) else none
    | .str x => if (reprText x).length ≤ 16777216 then some (.d (.str (reprText x))) else none
    | _ => none
section
variable {X : Cx} {pins : List (Addr × Obj)} {s : Shared} {σ : St} {H F : Hp}
theorem RepD.readsK (I : Inv X pins σ H s) (l : Le F H) (d : D) (v : V) (u : Value) (hp : d.itk = true) (h : RepD (kg X) F v d) (r : RelV v u) : ∃ as, Reads s.heap u d.pyk as ∧ (d.pyk.hasDict = true → sysModules ∉ as) := by
  by_cases c : d.pl = true
  · obtain ⟨as, R⟩ := ((View.fz h).dp l c).reads I d.py v u r
    refine ⟨as, ?_, ?_⟩
    · unfold D.pyk; rw [if_pos c]; exact R
    · unfold D.pyk; rw [if_pos c]; exact PyData.noDict_hsm (D.py_nd d c)
  · have hx : d.plx = true := by
      unfold D.itk at hp
      cases e : d.pl with
      | true => exact absurd e c
      | false => rw [e] at hp; exact hp
    obtain ⟨as, R, hn⟩ := RepD.readsX I l d v u hx h r
    refine ⟨as, ?_, fun _ => hn⟩
    unfold D.pyk; rw [if_neg c]; exact R
theorem RepDs.readsK (I : Inv X pins σ H s) (l : Le F H) : ∀ (ds : List D) (vs : List V) (us : List Value), ds.all D.itk = true → RepDs (kg X) F vs ds → Vals vs us → PyData.showableAll (D.pyks ds) = true → (∀ t ∈ PyData.shownAll (D.pyks ds), t.length ≤ sizeLine) →
    ∃ as bs, ReadsAll s.heap us (D.pyks ds) as ∧ ReadAtMost s.heap (PyData.depthAll (D.pyks ds)) bs ∧ ReprAllK X.prog X.w bs s.heap (PyData.depthAll (D.pyks ds)) us (PyData.shownAll (D.pyks ds))
  | [], _, _, _, .nil, .nil, _, _ => ⟨[], [], .nil, (fun _ h => nomatch h), .nil⟩
  | d :: ds, v :: vs, u :: us, hp, .cons h hs, .cons r rs, hw, hz => by
    rw [List.all_cons, Bool.and_eq_true] at hp
    have hw : (d.pyk.showable && PyData.showableAll (D.pyks ds)) = true := by simpa [D.pyks, PyData.showableAll] using hw
    rw [Bool.and_eq_true] at hw
    obtain ⟨a1, R1, n1⟩ := RepD.readsK I l d v u hp.1 h r
    have z1 : d.pyk.shown.length ≤ sizeLine := hz _ (by show d.pyk.shown ∈ PyData.shownAll (d.pyk :: D.pyks ds); simp only [PyData.shownAll]; exact List.mem_cons_self ..)
    have z2 : ∀ t ∈ PyData.shownAll (D.pyks ds), t.length ≤ sizeLine := fun t ht => hz t (by show t ∈ PyData.shownAll (d.pyk :: D.pyks ds); simp only [PyData.shownAll]; exact List.mem_cons_of_mem _ ht)
    obtain ⟨b1, hb1, k1⟩ := ReprK.of_reads (prog := X.prog) (w := X.w) R1 hw.1 n1 z1
    obtain ⟨a2, b2, R2, hb2, k2⟩ := RepDs.readsK I l ds vs us hp.2 hs rs hw.2 z2
    refine ⟨a1 ++ a2, b1 ++ b2, .cons R1 R2, ?_, ?_⟩
    · intro b hm
      show ∃ d' as', _ ∧ PyData.depth d' ≤ PyData.depthAll (d.pyk :: D.pyks ds)
      simp only [PyData.depthAll]
      rcases List.mem_append.mp hm with hm | hm
      · obtain ⟨d', as', r', hd'⟩ := hb1 b hm
        exact ⟨d', as', r', Nat.le_trans hd' (Nat.le_max_left _ _)⟩
      · obtain ⟨d', as', r', hd'⟩ := hb2 b hm
        exact ⟨d', as', r', Nat.le_trans hd' (Nat.le_max_right _ _)⟩
    · show ReprAllK _ _ _ _ (PyData.depthAll (d.pyk :: D.pyks ds)) _ (PyData.shownAll (d.pyk :: D.pyks ds))
      simp only [PyData.depthAll, PyData.shownAll]
      exact .cons ((k1.more fun b hb => List.mem_append_left _ hb).level_le (Nat.le_max_left _ _)) (k2.more_le (fun b hb => List.mem_append_right _ hb) (Nat.le_max_right _ _))
theorem View.readsE {v : V} (I : Inv X pins σ H s) (l : Le F H) (wx : View (kg X) H F v (.dk [])) : ∃ a, v = .ref a ∧ ∃ as, Reads s.heap (.ref a) (.dict []) as ∧ sysModules ∉ as := by
  obtain ⟨a, ks, vs, ds, rfl, hrd, hl, rs, hz⟩ := View.dict l wx
  have : ks = [] := by
    cases ks with
    | nil => rfl
    | cons k ks =>
      cases rs with
      | nil => cases hl
      | cons _ _ => cases hz
  subst this
  obtain ⟨_, hsm, ws, hkv, o, es, ep, ho, hx, hd, _, hpr, _⟩ := dk_rd I.hok hrd
  have hw : ws = [] := by
    unfold KV at hkv
    cases hkv
    rfl
  subst hw
  have he : es.toList = [] := by
    generalize es.toList = L at hpr
    cases hpr
    rfl
  refine ⟨a, rfl, a :: [] ++ [], Reads.dict ho hx.1 hd (kvs := []) ?_ ?_, ?_⟩
  · rw [he]; exact ReadsAll.nil
  · rw [he]; exact ReadsAll.nil
  · rw [List.append_nil, List.mem_singleton]
    exact fun e => (beq_eq_false_iff_ne.mp hsm) e.symm
theorem repr_lstK {n : Nat} {v : V} {ds : List D} {us : List Value} {Q : VK} (hr : RoomG n X.A) (I : Inv X pins σ H s) (r : Vals [v] us) (l : Le F H) (wx : View (kg X) H F v (.lst ds)) (h : rpkOk ds = true) (wi : Wish (kg X) H F (.d (.str (rpk ds))) Q) :
    wpAny (model X.prog X.w) X.A (call (.builtin "repr") us) (EP X pins σ Q) X.xe s := by
  unfold rpkOk at h
  rw [Bool.and_eq_true, Bool.and_eq_true, Bool.and_eq_true] at h
  obtain ⟨⟨⟨h1, h2⟩, h3⟩, h4⟩ := h
  have h3 := of_decide_eq_true h3
  have h4 : (listText (PyData.shownAll (D.pyks ds))).length ≤ 16777216 := of_decide_eq_true h4
  have hz : (listText (PyData.shownAll (D.pyks ds))).length ≤ sizeLine := by rw [sizeLine_eq]; exact h4
  obtain ⟨a, vs, rfl, hsq, rd⟩ := wx.list l
  obtain ⟨u, rfl, rv⟩ := vals1 r
  obtain rfl : u = Value.ref a := rv
  obtain ⟨its, rvs, ⟨o, nn, ho, hc, _, hd⟩, _⟩ := I.list (.inl hsq)
  obtain ⟨as, bs, R, hb, hk⟩ := RepDs.readsK I l ds vs its h1 rd rvs h2 (fun t ht => Nat.le_trans (listText_mem_le ht) hz)
  have un := hr.rm.un
  have RR : Reads s.heap (.ref a) (.list (D.pyks ds)) (a :: as) := Reads.list ho hc hd R
  have hna : a ∉ bs := not_mem_of_deeper RR (by simp only [PyData.depth]; omega) hb
  refine call_repr_slot (by have := un; omega) ⟨o, ho, hc⟩ PySem.F.slot_list_repr.toG ?_
  cases its with
  | nil =>
    have e0 : D.pyks ds = [] := by
      generalize D.pyks ds = L at R
      cases R
      rfl
    refine call_list_repr_empty ⟨o, ho, hc⟩ ho hd ⟨_, _, rfl, ⟨.str _, H, I.kept (fun _ _ e => e), ⟨_, rfl⟩, ?_⟩⟩
    have := wi.str
    unfold rpk at this
    rw [e0] at this
    simpa only [PyData.shownAll, listText_nil] using this
  | cons x l' =>
    exact call_list_reprK (A := X.A.in1) (d := PyData.depthAll (D.pyks ds)) ho hc hd hna (by simpa using hk.length_eq) (fun i y e => hk.item i y (by simpa using e)) hr.gd (fun b _ => Clear.nil b) (by show X.A.units + 1 + _ < cLine; omega) (fun _ _ e => e) (fun h' u tk hk' => ⟨_, _, rfl, ⟨.str _, H, I.kept hk', ⟨_, rfl⟩, wi.str⟩⟩) hz
end
section
variable {X : Cx}
theorem cd_reprF {n : Nat} (hr : RoomG n X.A) : CallR X (.builtin "repr") (semC (kg X) (on1 reprF)) := call1 fun pins s σ H F v x us m Q I r l wx e wi => by
  cases ed : reprE x with
  | some m0 =>
    have e : reprF x = some m := e
    unfold reprF at e
    rw [ed] at e
    cases e
    exact cd_reprE hr pins s σ H [v] us Q I r ⟨F, [x], m, l, .cons wx .nil, ed, wi⟩
  | none =>
    have e : reprF x = some m := e
    unfold reprF at e
    rw [ed] at e
    cases x with
    | lst ds =>
      have e : (if rpkOk ds = true then some (M.d (.str (rpk ds))) else none) = some m := e
      split at e
      · rename_i h
        cases e
        exact repr_lstK hr I r l wx h wi
      · cases e
    | dk kvs =>
      have e : (if kvs.isEmpty = true then some (M.d (.str (PyData.shown (.dict [])))) else none) = some m := e
      split at e
      · rename_i h
        cases e
        obtain ⟨u, rfl, rv⟩ := vals1 r
        have hk : kvs = [] := List.isEmpty_iff.mp h
        subst hk
        obtain ⟨a, rfl, as, R, hn⟩ := View.readsE I l wx
        obtain rfl : u = Value.ref a := rv
        have un := hr.rm.un
        refine PySem.repr_of_reads' R rfl (fun _ => hn) hr.gd (by show X.A.units + (1 + 1) < cLine; omega) (fun _ _ e => e) (fun h' u tk hk => ?_) (by rw [sizeLine_eq]; decide)
        exact ⟨.str _, H, I.kept hk, ⟨u, rfl⟩, wi.str⟩
      · cases e
    | non =>
      cases e
      obtain ⟨u, rfl, rv⟩ := vals1 r
      have rr : RepD (kg X) F v .non := by cases wx with | fz h => exact h
      cases rr
      cases rv
      exact PySem.P.repr_of_none ⟨.str _, H, I.tok _, ⟨_, rfl⟩, wi.str⟩
    | int i =>
      have e : (if i.natAbs.log2 < 1920 then some (M.d (.str (toString i))) else none) = some m := e
      split at e
      · rename_i h
        cases e
        obtain ⟨u, rfl, rv⟩ := vals1 r
        have rr : RepD (kg X) F v (.int i) := by cases wx with | fz h => exact h
        cases rr
        obtain ⟨t, rfl⟩ := rv
        exact PySem.P.repr_of_int h ⟨.str _, H, I.tok _, ⟨_, rfl⟩, wi.str⟩
      · cases e
    | str y =>
      have e : (if (reprText y).length ≤ 16777216 then some (M.d (.str (reprText y))) else none) = some m := e
      split at e
      · rename_i h
        cases e
        obtain ⟨u, rfl, rv⟩ := vals1 r
        have rr : RepD (kg X) F v (.str y) := by cases wx with | fz h => exact h
        cases rr
        obtain ⟨t, rfl⟩ := rv
        exact PySem.P.repr_of_str ⟨.str _, H, I.tok _, ⟨_, rfl⟩, wi.str⟩ (by rw [sizeLine_eq]; exact h)
      · cases e
    | _ => cases e
end
theorem reprF_of {d : D} {m : M} (h : reprE d = some m) : reprF d = some m := by unfold reprF; rw [h]
/-! ### x.f, x owned: x is kept as it stands from here on -/
section
variable {X : Cx} {o : Expr} {pos : Pos}
end
section
variable {X : Cx} {e o i : Expr} {pos spos : Pos} {kp : Nat → Bool} {j : Nat} {f fi : FE} {g : FG}
end
/-! ### x.count(e) -/
section
variable {X : Cx} {o e : Expr} {apos cpos : Pos} {j : Nat} {f : FE}
variable {ci : M → Option Nat}
end
/-! ### max([..]), {} not in [texts] -/
section
variable {X : Cx}
end
section
open PySem.SeqAt MeetsSeq AutoSeq1
end
section
open PySem.SeqAt MeetsSeq AutoSeq1
variable {X : Cx}
end
/-- what is under one part of a slot's thing goes to the result -/
noncomputable def tkO (j k : Nat) (O : OW) : OW := fun a => match O a with
  | some (.s i, p) => if i = j ∧ p.head? = some k then some (.r, p.tail) else some (.s i, p)
  | x => x
theorem tkO_out {O : OW} {j k : Nat} {a : Addr} {z : Rt} {s : List Nat} (h : O a = some (z, s)) (hn : z = .s j → s.head? ≠ some k) : tkO j k O a = some (z, s) := by
  unfold tkO
  rw [h]
  cases z with
  | s i =>
    dsimp only
    rw [if_neg]
    rintro ⟨rfl, e⟩
    exact hn rfl e
  | r => rfl
theorem RepMs.drop {K : KG} {H F : Hp} {O : OW} {j kk : Nat} {b : Addr} : ∀ {ms : List M} {n i : Nat} {vs : List V}, RepMs K H F O (.s j, []) n vs ms → n + i = kk → vs[i]? = some (.ref b) → RepMs K H F (tkO j kk O) (.s j, []) n vs (ms.set i (.d .any))
  | [], n, i, vs, h, e, hv => by
    rw [show vs = [] from h] at hv
    simp at hv
  | m :: ms, n, 0, vs, h, e, hv => by
    obtain ⟨v, vs', rfl, h1, h2⟩ := h
    cases hv
    refine ⟨.ref b, vs', rfl, RepD.any b, ?_⟩
    have far : ∀ {ms : List M} {n' : Nat} {vs : List V}, n < n' → RepMs K H F O (.s j, []) n' vs ms → RepMs K H F (tkO j kk O) (.s j, []) n' vs ms := by
      intro ms
      induction ms with
      | nil => intro n' vs _ h; exact h
      | cons x ms ih =>
        intro n' vs hl h
        obtain ⟨v, vs', rfl, h1, h2⟩ := h
        refine ⟨v, vs', rfl, ?_, ih (by omega) h2⟩
        have h1 : RepM K H F O (.s j, [n'] ++ []) v x := h1
        exact RepM.rel (z' := .s j) (p1 := [n']) (Le.refl _) (fun a o s e1 e2 => ⟨e2, tkO_out e1 fun _ => by simp; omega⟩) h1
    exact far (Nat.lt_succ_self n) h2
  | m :: ms, n, i + 1, vs, h, e, hv => by
    obtain ⟨v, vs', rfl, h1, h2⟩ := h
    refine ⟨v, vs', rfl, ?_, RepMs.drop h2 (by omega) hv⟩
    have h1 : RepM K H F O (.s j, [n] ++ []) v m := h1
    exact RepM.rel (z' := .s j) (p1 := [n]) (Le.refl _) (fun a o s e1 e2 => ⟨e2, tkO_out e1 fun _ => by simp; omega⟩) h1
section
variable {X : Cx} {e : Expr} {j : Nat} {c f : Str}
end
theorem Rp.push {K : KG} {H F : Hp} {O : OW} {σ : St} {S : SS} {v : V} {m : M} (r : Rp K H F O σ S) (rm : RepM K H F O (.r, []) v m) : Rp K H F (mvO .r (.s S.length) O) (σ ++ [some v]) (S ++ [some m]) := by
  have hlen := r.len
  refine ⟨mv_bs r.bs, by rw [List.length_append, List.length_append, hlen]; rfl, fun i mm hi => ?_⟩
  unfold SS.at at hi
  by_cases hlt : i < S.length
  · rw [List.getElem?_append_left hlt] at hi
    obtain ⟨w, hw, rw'⟩ := r.sl i mm hi
    refine ⟨w, by rw [List.getElem?_append_left (by rw [← hlen]; exact hlt)]; exact hw, mv_other rw' (fun z => by cases z) (fun z => ?_)⟩
    injection z with z
    exact absurd z (Nat.ne_of_lt hlt)
  · have : i = S.length := by
      cases e : (S ++ [some m])[i]? with
      | none => rw [e] at hi; cases hi
      | some z =>
        have := (List.getElem?_eq_some_iff.mp e).1
        rw [List.length_append, List.length_singleton] at this
        omega
    subst this
    rw [List.getElem?_append_right (Nat.le_refl _), Nat.sub_self] at hi
    cases hi
    exact ⟨v, by rw [hlen, List.getElem?_append_right (Nat.le_refl _), Nat.sub_self]; rfl, mv_rep rm⟩
section
variable {X : Cx} {o e : Expr} {c m : Str} {g : List M → CR} {fe : FE} {fm : FM} {n : Nat} {pos apos : Pos}
end
section
variable {X : Cx} {o e : Expr} {apos cpos : Pos} {j : Nat} {f : FE}
end
/-! ### t == () of any tuple -/
section
variable {X : Cx}
end
mutual
noncomputable def D.pyz : D → PyData
  | .dk _ => .dict []
  | .tup xs => .tuple (D.pyzs xs)
  | .lst xs => .list (D.pyzs xs)
  | .bl b => .bool b
  | .int i => .int i
  | .str x => .str x
  | _ => .none
noncomputable def D.pyzs : List D → List PyData
  | [] => []
  | x :: xs => D.pyz x :: D.pyzs xs
end
mutual
noncomputable def D.plz : D → Bool
  | .dk kvs => kvs.isEmpty
  | .tup xs => D.plzs xs
  | .lst xs => D.plzs xs
  | .bl _ => true
  | .int _ => true
  | .str _ => true
  | .non => true
  | _ => false
noncomputable def D.plzs : List D → Bool
  | [] => true
  | x :: xs => D.plz x && D.plzs xs
end
noncomputable def rpz (d : D) : Str := d.pyz.shown
noncomputable def rpzOk (d : D) : Bool := d.plz && d.pyz.showable && decide (d.pyz.depth ≤ 190) && decide ((rpz d).length ≤ 16777216)
noncomputable def reprZ : D → Option M
  | .tup xs => if rpzOk (.tup xs) = true then some (.d (.str (rpz (.tup xs)))) else none
  | .lst xs => if rpzOk (.lst xs) = true then some (.d (.str (rpz (.lst xs)))) else none
  | .bl b => some (.d (.str (rpz (.bl b))))
  | _ => none
noncomputable def reprG (d : D) : Option M := match reprF d with
  | some m => some m
  | none => reprZ d
section
variable {X : Cx} {pins : List (Addr × Obj)} {s : Shared} {σ : St} {H F : Hp}
mutual
theorem RepD.readsZ (I : Inv X pins σ H s) (l : Le F H) : ∀ (d : D) (v : V) (u : Value), d.plz = true → RepD (kg X) F v d → RelV v u → d.pyz.showable = true → d.pyz.shown.length ≤ sizeLine →
    ∃ as bs, Reads s.heap u d.pyz as ∧ ReadAtMost s.heap d.pyz.depth bs ∧ ReprK X.prog X.w bs s.heap d.pyz.depth u d.pyz.shown
  | .non, _, _, _, h, r, _, _ => by
    cases h; cases r
    exact ⟨_, [], Reads.none, (fun _ h => nomatch h), by simp only [D.pyz, PyData.shown]; exact .of_is ReprIs.none _ _ _⟩
  | .bl b, _, _, _, h, r, _, _ => by
    cases h; cases r
    exact ⟨_, [], Reads.bool b, (fun _ h => nomatch h), by simp only [D.pyz, PyData.shown]; exact .of_is (ReprIs.bool b) _ _ _⟩
  | .int i, _, _, _, h, r, hs, _ => by
    cases h; obtain ⟨t, rfl⟩ := r
    exact ⟨_, [], Reads.int i t, (fun _ h => nomatch h), by simp only [D.pyz, PyData.shown]; exact .of_is (ReprIs.int t (by simpa [D.pyz, PyData.showable] using hs)) _ _ _⟩
  | .str x, _, _, _, h, r, _, hz => by
    cases h; obtain ⟨t, rfl⟩ := r
    exact ⟨_, [], Reads.str x t, (fun _ h => nomatch h), by simp only [D.pyz, PyData.shown]; exact .of_is (ReprIs.str x t (by simpa only [D.pyz, PyData.shown] using hz)) _ _ _⟩
  | .tup xs, _, _, hp, h, r, hs, hz => by
    obtain ⟨a, vs, rfl, hsq, rs⟩ := View.tuple l (View.fz h)
    cases r
    obtain ⟨its, rv, ⟨o, ho, hc, n, hd⟩, _⟩ := I.tuple hsq
    have hz' : (tupleText (PyData.shownAll (D.pyzs xs))).length ≤ sizeLine := by simpa only [D.pyz, PyData.shown] using hz
    obtain ⟨as, bs, R, hb, hk⟩ := RepDs.readsZ I l xs vs its hp rs rv (by simpa [D.pyz, PyData.showable] using hs) (fun t ht => Nat.le_trans (tupleText_mem_le ht) hz')
    have RR : Reads s.heap (.ref a) (.tuple (D.pyzs xs)) _ := .tuple ho hc hd R
    have hna : a ∉ bs := not_mem_of_deeper RR (by simp only [PyData.depth]; omega) hb
    refine ⟨_, a :: bs, RR, ?_, ?_⟩
    · show ReadAtMost s.heap (PyData.depth (.tuple (D.pyzs xs))) (a :: bs)
      exact ReadAtMost.cons RR (by simp only [PyData.depth]; omega) hb
    · simp only [D.pyz, PyData.depth, PyData.shown]
      exact ReprK.tuple ho hc hd hna hk
  | .lst xs, _, _, hp, h, r, hs, hz => by
    obtain ⟨a, vs, rfl, hsq, rs⟩ := (View.fz h).list l
    cases r
    obtain ⟨its, rv, ⟨o, n, ho, hc, _, hd⟩, _⟩ := I.list (.inl hsq)
    have hz' : (listText (PyData.shownAll (D.pyzs xs))).length ≤ sizeLine := by simpa only [D.pyz, PyData.shown] using hz
    obtain ⟨as, bs, R, hb, hk⟩ := RepDs.readsZ I l xs vs its hp rs rv (by simpa [D.pyz, PyData.showable] using hs) (fun t ht => Nat.le_trans (listText_mem_le ht) hz')
    have RR : Reads s.heap (.ref a) (.list (D.pyzs xs)) _ := .list ho hc hd R
    have hna : a ∉ bs := not_mem_of_deeper RR (by simp only [PyData.depth]; omega) hb
    refine ⟨_, a :: bs, RR, ?_, ?_⟩
    · show ReadAtMost s.heap (PyData.depth (.list (D.pyzs xs))) (a :: bs)
      exact ReadAtMost.cons RR (by simp only [PyData.depth]; omega) hb
    · simp only [D.pyz, PyData.depth, PyData.shown]
      cases its with
      | nil =>
        have e0 : D.pyzs xs = [] := by
          generalize D.pyzs xs = L at R
          cases R
          rfl
        rw [e0]
        simp only [PyData.shownAll, listText_nil]
        exact ReprK.listEmpty ho hc hd
      | cons x l' => exact ReprK.list ho hc hd hna (by simpa using hk.length_eq) (fun i y e => hk.item i y (by simpa using e))
  | .dk kvs, _, _, hp, h, r, hs, hz => by
    have hk : kvs = [] := List.isEmpty_iff.mp hp
    subst hk
    obtain ⟨a, rfl, as, R, hn⟩ := View.readsE I l (View.fz h)
    cases r
    obtain ⟨bs, hb, k⟩ := ReprK.of_reads (prog := X.prog) (w := X.w) R rfl (fun _ => hn) hz
    exact ⟨as, bs, R, hb, k⟩
theorem RepDs.readsZ (I : Inv X pins σ H s) (l : Le F H) : ∀ (ds : List D) (vs : List V) (us : List Value), D.plzs ds = true → RepDs (kg X) F vs ds → Vals vs us → PyData.showableAll (D.pyzs ds) = true → (∀ t ∈ PyData.shownAll (D.pyzs ds), t.length ≤ sizeLine) →
    ∃ as bs, ReadsAll s.heap us (D.pyzs ds) as ∧ ReadAtMost s.heap (PyData.depthAll (D.pyzs ds)) bs ∧ ReprAllK X.prog X.w bs s.heap (PyData.depthAll (D.pyzs ds)) us (PyData.shownAll (D.pyzs ds))
  | [], _, _, _, .nil, .nil, _, _ => ⟨[], [], .nil, (fun _ h => nomatch h), by simp only [D.pyzs, PyData.shownAll]; exact .nil⟩
  | d :: ds, v :: vs, u :: us, hp, .cons h hs, .cons r rs, hw, hz => by
    have hp : (D.plz d && D.plzs ds) = true := hp
    rw [Bool.and_eq_true] at hp
    have hw : (d.pyz.showable && PyData.showableAll (D.pyzs ds)) = true := by simpa [D.pyzs, PyData.showableAll] using hw
    rw [Bool.and_eq_true] at hw
    have z1 : d.pyz.shown.length ≤ sizeLine := hz _ (by show d.pyz.shown ∈ PyData.shownAll (d.pyz :: D.pyzs ds); simp only [PyData.shownAll]; exact List.mem_cons_self ..)
    have z2 : ∀ t ∈ PyData.shownAll (D.pyzs ds), t.length ≤ sizeLine := fun t ht => hz t (by show t ∈ PyData.shownAll (d.pyz :: D.pyzs ds); simp only [PyData.shownAll]; exact List.mem_cons_of_mem _ ht)
    obtain ⟨a1, b1, R1, hb1, k1⟩ := RepD.readsZ I l d v u hp.1 h r hw.1 z1
    obtain ⟨a2, b2, R2, hb2, k2⟩ := RepDs.readsZ I l ds vs us hp.2 hs rs hw.2 z2
    refine ⟨a1 ++ a2, b1 ++ b2, .cons R1 R2, ?_, ?_⟩
    · intro b hm
      show ∃ d' as', _ ∧ PyData.depth d' ≤ PyData.depthAll (d.pyz :: D.pyzs ds)
      simp only [PyData.depthAll]
      rcases List.mem_append.mp hm with hm | hm
      · obtain ⟨d', as', r', hd'⟩ := hb1 b hm
        exact ⟨d', as', r', Nat.le_trans hd' (Nat.le_max_left _ _)⟩
      · obtain ⟨d', as', r', hd'⟩ := hb2 b hm
        exact ⟨d', as', r', Nat.le_trans hd' (Nat.le_max_right _ _)⟩
    · show ReprAllK _ _ _ _ (PyData.depthAll (d.pyz :: D.pyzs ds)) _ (PyData.shownAll (d.pyz :: D.pyzs ds))
      simp only [PyData.depthAll, PyData.shownAll]
      exact .cons ((k1.more fun b hb => List.mem_append_left _ hb).level_le (Nat.le_max_left _ _)) (k2.more_le (fun b hb => List.mem_append_right _ hb) (Nat.le_max_right _ _))
end
end
section
variable {X : Cx} {pins : List (Addr × Obj)} {s : Shared} {σ : St} {H F : Hp}
theorem repr_lstZ {n : Nat} {v : V} {ds : List D} {us : List Value} {Q : VK} (hr : RoomG n X.A) (I : Inv X pins σ H s) (r : Vals [v] us) (l : Le F H) (wx : View (kg X) H F v (.lst ds)) (h : rpzOk (.lst ds) = true) (wi : Wish (kg X) H F (.d (.str (rpz (.lst ds)))) Q) :
    wpAny (model X.prog X.w) X.A (call (.builtin "repr") us) (EP X pins σ Q) X.xe s := by
  unfold rpzOk at h
  rw [Bool.and_eq_true, Bool.and_eq_true, Bool.and_eq_true] at h
  obtain ⟨⟨⟨h1, h2⟩, h3⟩, h4⟩ := h
  have h1 : D.plzs ds = true := h1
  have h2 : PyData.showableAll (D.pyzs ds) = true := by simpa [D.pyz, PyData.showable] using h2
  have h3 : PyData.depth (.list (D.pyzs ds)) ≤ 190 := of_decide_eq_true h3
  simp only [PyData.depth] at h3
  have e4 : rpz (.lst ds) = listText (PyData.shownAll (D.pyzs ds)) := by unfold rpz; simp only [D.pyz, PyData.shown]
  have h4 : (rpz (.lst ds)).length ≤ 16777216 := of_decide_eq_true h4
  rw [e4] at h4 wi
  have hz : (listText (PyData.shownAll (D.pyzs ds))).length ≤ sizeLine := by rw [sizeLine_eq]; exact h4
  obtain ⟨a, vs, rfl, hsq, rd⟩ := wx.list l
  obtain ⟨u, rfl, rv⟩ := vals1 r
  obtain rfl : u = Value.ref a := rv
  obtain ⟨its, rvs, ⟨o, nn, ho, hc, _, hd⟩, _⟩ := I.list (.inl hsq)
  obtain ⟨as, bs, R, hb, hk⟩ := RepDs.readsZ I l ds vs its h1 rd rvs h2 (fun t ht => Nat.le_trans (listText_mem_le ht) hz)
  have un := hr.rm.un
  have RR : Reads s.heap (.ref a) (.list (D.pyzs ds)) (a :: as) := Reads.list ho hc hd R
  have hna : a ∉ bs := not_mem_of_deeper RR (by simp only [PyData.depth]; omega) hb
  refine call_repr_slot (by have := un; omega) ⟨o, ho, hc⟩ PySem.F.slot_list_repr.toG ?_
  cases its with
  | nil =>
    have e0 : D.pyzs ds = [] := by
      generalize D.pyzs ds = L at R
      cases R
      rfl
    refine call_list_repr_empty ⟨o, ho, hc⟩ ho hd ⟨_, _, rfl, ⟨.str _, H, I.kept (fun _ _ e => e), ⟨_, rfl⟩, ?_⟩⟩
    have := wi.str
    rw [e0] at this
    simpa only [PyData.shownAll, listText_nil] using this
  | cons x l' =>
    exact call_list_reprK (A := X.A.in1) (d := PyData.depthAll (D.pyzs ds)) ho hc hd hna (by simpa using hk.length_eq) (fun i y e => hk.item i y (by simpa using e)) hr.gd (fun b _ => Clear.nil b) (by show X.A.units + 1 + _ < cLine; omega) (fun _ _ e => e) (fun h' u tk hk' => ⟨_, _, rfl, ⟨.str _, H, I.kept hk', ⟨_, rfl⟩, wi.str⟩⟩) hz
theorem repr_tupZ {n : Nat} {v : V} {ds : List D} {us : List Value} {Q : VK} (hr : RoomG n X.A) (I : Inv X pins σ H s) (r : Vals [v] us) (l : Le F H) (wx : View (kg X) H F v (.tup ds)) (h : rpzOk (.tup ds) = true) (wi : Wish (kg X) H F (.d (.str (rpz (.tup ds)))) Q) :
    wpAny (model X.prog X.w) X.A (call (.builtin "repr") us) (EP X pins σ Q) X.xe s := by
  unfold rpzOk at h
  rw [Bool.and_eq_true, Bool.and_eq_true, Bool.and_eq_true] at h
  obtain ⟨⟨⟨h1, h2⟩, h3⟩, h4⟩ := h
  have h1 : D.plzs ds = true := h1
  have h2 : PyData.showableAll (D.pyzs ds) = true := by simpa [D.pyz, PyData.showable] using h2
  have h3 : PyData.depth (.tuple (D.pyzs ds)) ≤ 190 := of_decide_eq_true h3
  simp only [PyData.depth] at h3
  have e4 : rpz (.tup ds) = tupleText (PyData.shownAll (D.pyzs ds)) := by unfold rpz; simp only [D.pyz, PyData.shown]
  have h4 : (rpz (.tup ds)).length ≤ 16777216 := of_decide_eq_true h4
  rw [e4] at h4 wi
  have hz : (tupleText (PyData.shownAll (D.pyzs ds))).length ≤ sizeLine := by rw [sizeLine_eq]; exact h4
  obtain ⟨a, vs, rfl, hsq, rd⟩ := wx.tuple l
  obtain ⟨u, rfl, rv⟩ := vals1 r
  obtain rfl : u = Value.ref a := rv
  obtain ⟨its, rvs, ⟨o, ho, hc, nn, hd⟩, _⟩ := I.tuple hsq
  obtain ⟨as, bs, R, hb, hk⟩ := RepDs.readsZ I l ds vs its h1 rd rvs h2 (fun t ht => Nat.le_trans (tupleText_mem_le ht) hz)
  have un := hr.rm.un
  have RR : Reads s.heap (.ref a) (.tuple (D.pyzs ds)) as := Reads.tuple ho hc hd R
  have hna : a ∉ bs := not_mem_of_deeper RR (by simp only [PyData.depth]; omega) hb
  refine call_repr_slot (by have := un; omega) ⟨o, ho, hc⟩ PySem.F.slot_tuple_repr ?_
  exact call_tuple_reprK (A := X.A.in1) (d := PyData.depthAll (D.pyzs ds)) ho hc hd hna hk hr.gd (fun b _ => Clear.nil b) (by show X.A.units + 1 + _ < cLine; omega) (fun _ _ e => e) (fun h' u tk hk' => ⟨_, _, rfl, ⟨.str _, H, I.kept hk', ⟨_, rfl⟩, wi.str⟩⟩) hz
theorem rpz_bl (b : Bool) : rpz (.bl b) = (if b then "True" else "False" : Str) := by unfold rpz; simp only [D.pyz, PyData.shown]
theorem cd_reprG {n : Nat} (hr : RoomG n X.A) : CallR X (.builtin "repr") (semC (kg X) (on1 reprG)) := call1 fun pins s σ H F v x us m Q I r l wx e wi => by
  cases ed : reprF x with
  | some m0 =>
    have e : reprG x = some m := e
    unfold reprG at e
    rw [ed] at e
    cases e
    exact cd_reprF hr pins s σ H [v] us Q I r ⟨F, [x], m, l, .cons wx .nil, ed, wi⟩
  | none =>
    have e : reprG x = some m := e
    unfold reprG at e
    rw [ed] at e
    cases x with
    | lst ds =>
      have e : (if rpzOk (.lst ds) = true then some (M.d (.str (rpz (.lst ds)))) else none) = some m := e
      split at e
      · rename_i h
        cases e
        exact repr_lstZ hr I r l wx h wi
      · cases e
    | tup ds =>
      have e : (if rpzOk (.tup ds) = true then some (M.d (.str (rpz (.tup ds)))) else none) = some m := e
      split at e
      · rename_i h
        cases e
        exact repr_tupZ hr I r l wx h wi
      · cases e
    | bl b =>
      cases e
      obtain ⟨u, rfl, rv⟩ := vals1 r
      have rr : RepD (kg X) F v (.bl b) := by cases wx with | fz h => exact h
      cases rr
      cases rv
      rw [rpz_bl] at wi
      exact PySem.P.repr_of_bool ⟨.str _, H, I.tok _, ⟨_, rfl⟩, wi.str⟩
    | _ => cases e
end
theorem reprG_of {d : D} {m : M} (h : reprF d = some m) : reprG d = some m := by unfold reprG; rw [h]
section
open PySem.SeqAt MeetsSeq AutoSeq1
variable {X : Cx}
end
section
variable {X : Cx} {e a b o i f : Expr} {pos apos cpos : Pos}
/-! ### d[k] = v -/
/-! ### d.setdefault(k, v) -/
end
section
variable {X : Cx} {kp : Nat → Bool} {a b c : Expr} {pos : Pos}
end
section
variable {X : Cx} {o : Expr} {apos cpos pos p : Pos}
end
/-- C(e, ..) of a class with fields ns, named by its params -/
noncomputable def tMkV (C : Addr) (ns : List Str) (ta : TA) : TE := fun σ H Q => ta σ H fun vs H1 => vs.length = ns.length ∧ ∀ a d, H1 a = none → H1 d = none → d ≠ a → Q (.ref a) (upd (upd H1 a (exo a C (some d))) d (exd d ((ns.zip vs).reverse)))
section
variable {X : Cx} {x : Str} {e : Expr} {es : List Expr} {ta : TA} {p pos : Pos} {ns : List Str} {n : Nat}
theorem pe_mkV {C fI : Addr} {fd : FuncData} {ps : List Str} {k : Nat} (T : OexC X.K C) (iC : PySem.W.findIn X.K (.ref C) "__init__" = some (some (.ref fI))) (tI : PySem.W.typeIn X.K (.ref fI) = some (.type "function")) (hf : ∀ f ∈ ns, PySem.W.findIn X.K (.ref C) f = some none)
    (F1 : FnOk X.prog X.w X.K X.mg X.base CX0 k fI fd ps (spI X.K ns)) (hr : Room (k + 1) X.A) (hb : Binds X.K fd ps []) (hg : Gl X x) (hm : X.mg x = some (.ref C)) (ha : PA X (e :: es) ta) (hns : ns.length ≤ 100)
    (hdb : (x == ("__debug__" : Str)) = false := by decide) (he : starEach (e :: es) X.env = (false, eval e X.env) :: starEach es X.env := by rfl) (hpl : (backTo pos (starEach es X.env)).any (·.1) = false := by rfl) :
    PE X (.Call (.Name x p) (e :: es) [] pos) (tMkV C ns ta) := by
  refine ⟨fun pins s σ H Q I h => ?_⟩
  obtain ⟨nm, q, N, bs, bm, sn, sub, ab, col, dd, k0, k1, k2, k3, k5, hC, hbm⟩ := T.cls
  refine wpAny_Call_Name_kw (ld_glob I hg hm ?_ hdb)
  refine PySem.W.callWith_K (h₀ := X.base) I.ok.mod.kin T.kC (thn (ha.run pos pins s σ H _ I h) fun us s1 ⟨vs, H1, I1, r1, hz, q1⟩ => ⟨I1.kIn, ?_⟩) he hpl
  show wpAny _ _ (call (.ref C) us) _ _ _
  obtain ⟨hp, g, dr, tk, os⟩ := s1
  have hsz : hp.objs.size ≤ hp.objs.size + 1 := Nat.le_succ _
  have hn : H1 (hp.objs.size + 1) = none := I1.hok.fresh hsz
  have kk : ∀ b o, hp.get? b = some o → ((hp.push (PySem.W.kdv_tup us)).push (PySem.HandSPX.excO C hp.objs.size)).get? b = some o := fun b o e => Heap.get?_push_of_some _ (Heap.get?_push_of_some _ e)
  have hget : ((hp.push (PySem.W.kdv_tup us)).push (PySem.HandSPX.excO C hp.objs.size)).get? (hp.objs.size + 1) = some (PySem.HandSPX.excO C hp.objs.size) := by heap_get
  have I2 : Inv X pins σ (upd H1 (hp.objs.size + 1) (exo (hp.objs.size + 1) C none)) ⟨(hp.push (PySem.W.kdv_tup us)).push (PySem.HandSPX.excO C hp.objs.size), g, dr, tk, os⟩ :=
    I1.laid (t' := tk) (a := hp.objs.size + 1) (o := exo (hp.objs.size + 1) C none) (h' := (hp.push (PySem.W.kdv_tup us)).push (PySem.HandSPX.excO C hp.objs.size)) kk hsz (exo_ok hget)
  obtain ⟨a, ea⟩ : ∃ a, a = hp.objs.size + 1 := ⟨_, rfl⟩
  have sp1 : spI X.K ns (V.ref a :: vs) (upd H1 a (exo a C none)) (fun v H2 => v = .non ∧ Q (.ref a) H2) (fun _ _ _ => False) := by
    refine ⟨by simp [hz], a, C, vs, rfl, T, hf, upd_same, fun d H' hd hda h1 h2 h3 => ⟨rfl, ?_⟩⟩
    rw [upd_ne hda] at hd
    have e0 : H' = upd (upd H1 a (exo a C (some d))) d (exd d ((ns.zip vs).reverse)) := by
      funext b
      by_cases hbd : b = d
      · subst hbd; rw [upd_same, h2]
      · rw [upd_ne hbd]
        by_cases hba : b = a
        · subst hba; rw [upd_same, h1]
        · rw [upd_ne hba, h3 b hba hbd, upd_ne hba]
    rw [e0]
    exact q1 a d (by rw [ea]; exact hn) hd hda
  rw [ea] at sp1
  have r2 : Vals (V.ref (hp.objs.size + 1) :: vs) (Value.ref (hp.objs.size + 1) :: us) := .cons rfl r1
  have hl : (Value.ref (hp.objs.size + 1) :: us ++ []).length = ps.length := by
    have e := r2.length
    rw [F1.len _ _ _ _ sp1] at e
    rw [List.append_nil]
    exact e.symm
  have hus : us.length ≤ sizeLine := by
    rw [← Paired.length r1, sizeLine_eq, hz]
    omega
  have b2 := hb _ (Value.ref (hp.objs.size + 1) :: us) I2.kIn hl
  rw [List.append_nil] at b2
  refine wpAny_call (PySem.HandSPX.call_own F.excBase_ValueError (fun Y => PySem.HandSPX.refsVE_contains Y bm hbm) (I1.kIn _ _ hC) (PySem.W.looks_findIn I1.kIn iC) (fun self => PySem.W.bind_fn I1.kIn self tI) hus
    (codeAny_mono (F1.run _ X.stack _ _ ⟨Value.ref (hp.objs.size + 1) :: us, []⟩ (Value.ref (hp.objs.size + 1) :: us) _ _ (fun _ _ _ => False) (hr.make C us []) (I2.env0.make C us []) b2 r2 sp1) fun r s' hq' => ?_))
  cases r with
  | error er => exact False.elim hq'
  | ok fl =>
    cases fl with
    | ret u =>
      obtain ⟨v, H2, os2, bare2, un2, hok2, rv, ev, q2⟩ := hq'
      subst ev
      obtain ⟨h2, g2, d2, t2, os'⟩ := s'
      have os2 : os' = os := os2
      subst os2
      have I3 : Inv X pins σ H2 ⟨h2, g2, d2, t2, os'⟩ := Inv.call I2 un2 hok2 bare2 (fun b hb => nomatch hb)
      exact ⟨rv, .ref (hp.objs.size + 1), H2, I3, rfl, q2⟩
    | next => exact False.elim hq'
    | brk => exact False.elim hq'
    | cont => exact False.elim hq'
/-- a made exception, with fields -/
noncomputable def mMkX (c : Str) (ns : List Str) (f : FA) : FM := fun S => (f S).bind fun os S1 => match forceAll os S1 with
  | some (ds, S2) => if ds.length = ns.length then .ok (.d (.xo c ((ns.zip ds).reverse))) S2 else .no
  | none => .no
theorem dm_mkX (T : ExcI X.prog X.w X.K X.mg X.base x ns) (hr : RoomG (n + 2) X.A) (hg : Gl X x) {f : FA} (ha : DA X f (e :: es)) (hns : ns.length ≤ 100 := by decide) (hdb : (x == ("__debug__" : Str)) = false := by decide)
    (he : starEach (e :: es) X.env = (false, eval e X.env) :: starEach es X.env := by rfl) (hpl : (backTo pos (starEach es X.env)).any (·.1) = false := by rfl) :
    DM X (mMkX x ns f) (.Call (.Name x p) (e :: es) [] pos) := by
  obtain ⟨C, fI, fd, ps, hm, hT, iC, tI, hf, hF, hb, hps⟩ := T.ex
  refine PE.imp (pe_mkV hT iC tI hf (hF n) hr.rm hb hg hm ha hns hdb he hpl) fun σ H Q ⟨F, O, S, m, S', r, hx, k⟩ => ?_
  obtain ⟨os, S1, h1, h2⟩ := R.bind_ok hx
  refine ⟨F, O, S, os, S1, r, h1, fun vs H1 F1 O1 st1 r1 ro => ?_⟩
  cases ef : forceAll os S1 with
  | none => rw [ef] at h2; cases h2
  | some z =>
    obtain ⟨ds, S2⟩ := z
    rw [ef] at h2
    have h2 : (if ds.length = ns.length then R.ok (M.d (.xo x ((ns.zip ds).reverse))) S2 else .no) = .ok m S' := h2
    obtain ⟨F2, O2, st2, r2, rd⟩ := forceAll_ok r1 ro ef
    split at h2
    · rename_i hl
      cases h2
      have hlv : vs.length = ns.length := by rw [rd.len]; exact hl
      refine ⟨hlv, fun a d hna hnd hda => ?_⟩
      obtain ⟨st3, r3⟩ := r2.layF (o := exo a C (some d)) hna
      obtain ⟨st4, r4⟩ := r3.layF (p := d) (o := exd d ((ns.zip vs).reverse)) (by rw [upd_ne hda]; exact hnd)
      refine k _ _ _ _ (((st1.trans st2).trans st3).trans st4) r4 ?_
      have rr : RepDs (kg X) _ vs.reverse ds.reverse := ((rd.mono st3.ff).mono st4.ff).reverse
      have := RepD.xo (K := kg X) (c := x) (ns := ns.reverse) (clsOf_ref hm) (.inr ⟨d, by rw [upd_ne hda.symm, upd_same], by rw [upd_same, zip_rev hlv.symm]⟩) (by simp [hlv]) rr
      rw [zip_rev hl.symm]
      exact this
    · cases h2
/-- a made exception, of a class without fields, with a text -/
noncomputable def mMkT (c : Str) : FM := fun S => .ok (.d (.xo c [])) S
theorem dm_mkT (T : ExcT X.K X.mg x) (hg : Gl X x) {m : Str} {j : Nat} {p2 : Pos} (hdb : (x == ("__debug__" : Str)) = false := by decide) : DM X (mMkT x) (.Call (.Name x p) [.Constant (.str m) j p2] [] pos) := by
  obtain ⟨C, hm, q, kC, h1, h2⟩ := T.ex
  refine PE.imp (pe_exc1 F.excBase_ValueError q hm kC hg (pe_str (x := m) (j := j) (pos := p2)) (by rfl) hdb) fun σ H Q ⟨F, O, S, mm, S', r, hx, k⟩ => ?_
  cases hx
  intro a hn
  obtain ⟨st3, r3⟩ := r.layF (o := ExO (.ref C) a) hn
  exact k _ _ _ _ st3 r3 (RepD.xo (K := kg X) (c := x) (ns := []) (vs := []) (ds := []) (clsOf_ref hm) (.inl ⟨upd_same, rfl⟩) rfl .nil)
/-! ### its fields, its classes -/
theorem xo_inst {pins : List (Addr × Obj)} {σ : St} {H F : Hp} {s : Shared} {a C : Addr} {ns : List Str} {vs : List V} (I : Inv X pins σ H s) (l : Le F H) (h : XoT F a C ns vs) :
    ∃ oe od, PySem.W.InstAt s.heap a oe C od ∧ ∀ f v, (ns.zip vs).lookup f = some v → ∃ o u, od = some o ∧ PySem.W.lookIn f o = some (some u) ∧ RelV v u := by
  rcases h with ⟨h, rfl⟩ | ⟨d, h1, h2⟩
  · obtain ⟨⟨oe, us, e1, e2, e3, _⟩, _⟩ : ObjOk X.prog X.w H s.heap a (ExO (.ref C) a) := I.hok a _ (l _ _ h)
    refine ⟨oe, none, ⟨e1, e2.1, by unfold PySem.W.notCls; rw [e3] <;> rfl, by rw [e2.2]; trivial⟩, fun f v hv => by cases hv⟩
  · obtain ⟨t1, e1⟩ := exo_at I.hok (l _ _ h1)
    obtain ⟨mA, hns, hr⟩ := exd_at I.hok (l _ _ h2)
    obtain ⟨od, ho, hl⟩ := lookIn_ns hns
    refine ⟨_, some od, ⟨e1, rfl, rfl, ho⟩, fun f v hv => ?_⟩
    obtain ⟨u, hu, ru⟩ := RelO.some_of (by have := hr f; rw [hv] at this; exact this)
    exact ⟨od, u, rfl, by rw [hl, hu], ru⟩
noncomputable def eXo (cs : List Str) (xf : List (Str × Str)) (f : Str) (fe : FE) : FE := fun S => (fe S).bind fun o S1 => match o.get S1 with
  | some (.xo c fs) => (match fs.lookup f with
    | some d => if c ∈ cs ∧ (c, f) ∈ xf then .ok (.d d) S1 else .no
    | none => .no)
  | _ => .no
theorem view_xo {K : KG} {H F : Hp} {v : V} {c : Str} {fs : List (Str × D)} (h : View K H F v (.xo c fs)) : ∃ a C ns vs ds, v = .ref a ∧ fs = ns.zip ds ∧ K.cl c = some C ∧ XoT F a C ns vs ∧ ns.length = vs.length ∧ RepDs K F vs ds := by
  cases h with
  | fz r =>
    cases r with
    | xo h1 h2 h3 h4 => exact ⟨_, _, _, _, _, rfl, rfl, h1, h2, h3, h4⟩
theorem de_xo {cs : List Str} {xf : List (Str × Str)} {f : Str} {fe : FE} (hC : XcG X.K X.mg cs) (hF : FlG X.K X.mg xf) (he : DE X fe e) (hb : attributeBase e f X.env (eval e X.env) = eval e X.env := by rfl) : DE X (eXo cs xf f fe) (.Attribute e f pos) := by
  refine ⟨fun pins s σ H Q I h => ?_⟩
  obtain ⟨F, O, S, o, S', r, hf, k⟩ := h
  obtain ⟨o1, S1, h1, h2⟩ := R.bind_ok hf
  refine attr_of hb (thn (he.run pins s σ H (fun v H1 => ∃ F1 O1, Stp H F O H1 F1 O1 ∧ Rp (kg X) H1 F1 O1 σ S1 ∧ RepOv (kg X) F1 σ v o1) I ⟨F, O, S, o1, S1, r, h1, fun v H1 F1 O1 st1 r1 ro => ⟨F1, O1, st1, r1, ro⟩⟩) fun u s1 ⟨v, H1, I1, rv, F1, O1, st1, r1, ro⟩ => ?_)
  cases eg : o1.get S1 with
  | none => rw [eg] at h2; cases h2
  | some x =>
    rw [eg] at h2
    cases x with
    | xo c fs =>
      dsimp only at h2
      cases el : fs.lookup f with
      | none => rw [el] at h2; cases h2
      | some d =>
        rw [el] at h2
        dsimp only at h2
        split at h2
        · rename_i hh
          cases h2
          obtain ⟨a, C, ns, vs, ds, rfl, rfl, a1, a2, a3, a4⟩ := view_xo (r1.view ro eg)
          obtain rfl : u = .ref a := rv
          have hm := clsOf_iv (show clsOf X.mg c = some C from a1)
          obtain ⟨C1, b1, T⟩ := (hC.ex _ hh.1).ex
          rw [hm] at b1
          cases b1
          obtain ⟨C2, b3, b4⟩ := (hF _ hh.2).ex
          rw [show X.mg (c, f).1 = some (.ref C) from hm] at b3
          cases b3
          obtain ⟨w, hw, rw'⟩ := lookup_repd a4 el
          obtain ⟨oe, od, J, hl⟩ := xo_inst I1 r1.bs.fh a2
          obtain ⟨ob, u, rfl, hu, ru⟩ := hl f w hw
          exact PySem.HandSPX.exc_get I1.kIn J T.hg T.hk T.hs (PySem.W.findObj_own T.hd b4 rfl hu) (handed_of ru) ⟨w, H1, I1.tok _, ru, k w H1 F1 O1 st1 r1 rw'⟩
        · cases h2
    | _ => cases h2
noncomputable def rIsXo (K : PySem.W.Frag) : List V → Hp → VK → Prop := fun xs H Q => ∃ (F : Hp) (a C : Addr) (ns : List Str) (vs : List V) (c : V) (cv : Value) (b : Bool), xs = [.ref a, c] ∧ Le F H ∧ XoT F a C ns vs ∧ ExcC K C ∧ (∀ u, RelV c u → u = cv) ∧ PySem.W.kitOne K (.ref C) cv = some b ∧ Q (.bl b) H
theorem call_isXo : CallR X (.builtin "isinstance") (rIsXo X.K) := by
  intro pins s σ H xs us Q I r h
  obtain ⟨F, a, C, ns, vs, c, cv, b, rfl, l, hx, E, hcv, hk, q⟩ := h
  cases r with
  | cons rx rr =>
    cases rr with
    | cons rt rr =>
      cases rr
      cases rx
      obtain ⟨oe, od, J, _⟩ := xo_inst I l hx
      have Z := PySem.W.kitx_exc (x := a) (ox := oe) (od := od) (by obtain ⟨cd, hc, _⟩ := PySem.W.any_some E.hd; rw [hc]; rfl) E.hg E.hk E.hs E.ha E.hn E.ht E.hm
      have ec := hcv _ rt
      subst ec
      exact PySem.W.kia_one Z I.kIn J hk (fun z => nomatch z) fun tk => ⟨.bl b, H, I.kept (t' := tk) fun _ _ z => z, rfl, q⟩
noncomputable def mIsXo (isa : Isa) (cs : List Str) (d : Str) (fe : FE) : FM := fun S => (fe S).bind fun o S1 => match o.get S1 with
  | some (.xo c _) => (match isa c d with
    | some b => if c ∈ cs then .ok (.d (.bl b)) S1 else .no
    | none => .no)
  | _ => .no
theorem dm_isXo {isa : Isa} {cs : List Str} {d : Str} {fe : FE} {pd : Pos} (hC : XcG X.K X.mg cs) (hI : IsaG X.K X.mg isa) (hg : Gl X "isinstance") (hm : X.mg "isinstance" = none) (he : DE X fe e) (hgd : Gl X d) (hcl : ClsG X.mg [d]) (hdb : (d == ("__debug__" : Str)) = false := by decide)
    (hst : starEach [e, .Name d pd] X.env = (false, eval e X.env) :: starEach [.Name d pd] X.env := by rfl) (hst2 : starEach [.Name d pd] X.env = (false, eval (.Name d pd) X.env) :: starEach [] X.env := by rfl) (hpl : (backTo pos (starEach [.Name d pd] X.env)).any (·.1) = false := by rfl) :
    DM X (mIsXo isa cs d fe) (.Call (.Name "isinstance" p) [e, .Name d pd] [] pos) := by
  have hd := adr_of (hcl d (by simp))
  refine PE.imp (pe_callB (X := X) call_isXo hg hm (by decide +kernel) (pa_cons he (pa_cons (pe_clsN (Y := X) hgd hd hdb) pa_nil hst2) hst) (by decide) (by decide) hst hpl) fun σ H Q ⟨F, O, S, m, S', r, hf, k⟩ => ?_
  obtain ⟨o1, S1, h1, h2⟩ := R.bind_ok hf
  refine ⟨F, O, S, o1, S1, r, h1, fun v H1 F1 O1 st1 r1 ro => ?_⟩
  cases eg : o1.get S1 with
  | none => rw [eg] at h2; cases h2
  | some x =>
    rw [eg] at h2
    cases x with
    | xo c fs =>
      dsimp only at h2
      cases e2 : isa c d with
      | none => rw [e2] at h2; cases h2
      | some b =>
        rw [e2] at h2
        dsimp only at h2
        split at h2
        · rename_i hh
          cases h2
          obtain ⟨a, C, ns, vs, ds, rfl, rfl, a1, a2, a3, a4⟩ := view_xo (r1.view ro eg)
          have hmc := clsOf_iv (show clsOf X.mg c = some C from a1)
          obtain ⟨C1, b1, T⟩ := (hC.ex _ hh).ex
          rw [hmc] at b1
          cases b1
          have hk := isa_kit hI hmc (ds := [d]) (b := b) (by unfold anyIs; rw [e2]; cases b <;> rfl)
          refine ⟨F1, a, C, ns, vs, .ref (adr X.mg d), .ref (adr X.mg d), b, rfl, r1.bs.fh, a2, T, fun u h => h, ?_, k (.bl b) H1 F1 O1 st1 r1 (.bl b)⟩
          have hk : PySem.W.kitAny X.K (.ref C) [.ref (adr X.mg d)] = some b := hk
          unfold PySem.W.kitAny at hk
          cases e4 : PySem.W.kitOne X.K (.ref C) (.ref (adr X.mg d)) with
          | none => rw [e4] at hk; cases hk
          | some b1 =>
            rw [e4] at hk
            cases b1 with
            | true => exact hk
            | false => exact hk
        · cases h2
    | _ => cases h2
noncomputable def mIsXb (xb : List (Str × String × Bool)) (cs : List Str) (T : String) (fe : FE) : FM := fun S => (fe S).bind fun o S1 => match o.get S1 with
  | some (.xo c _) => if c ∈ cs ∧ (c, T, true) ∈ xb then .ok (.d (.bl true)) S1 else .no
  | _ => .no
theorem dm_isXb {xb : List (Str × String × Bool)} {cs : List Str} {T : Str} {fe : FE} {pd : Pos} (hC : XcG X.K X.mg cs) (hB : IsbG X.K X.mg xb) (hg : Gl X "isinstance") (hm : X.mg "isinstance" = none) (he : DE X fe e) {Ts : String} (hT : PE X (.Name T pd) (tC (.ty Ts)))
    (hst : starEach [e, .Name T pd] X.env = (false, eval e X.env) :: starEach [.Name T pd] X.env := by rfl) (hst2 : starEach [.Name T pd] X.env = (false, eval (.Name T pd) X.env) :: starEach [] X.env := by rfl) (hpl : (backTo pos (starEach [.Name T pd] X.env)).any (·.1) = false := by rfl) :
    DM X (mIsXb xb cs Ts fe) (.Call (.Name "isinstance" p) [e, .Name T pd] [] pos) := by
  refine PE.imp (pe_callB (X := X) call_isXo hg hm (by decide +kernel) (pa_cons he (pa_cons hT pa_nil hst2) hst) (by decide) (by decide) hst hpl) fun σ H Q ⟨F, O, S, m, S', r, hf, k⟩ => ?_
  obtain ⟨o1, S1, h1, h2⟩ := R.bind_ok hf
  refine ⟨F, O, S, o1, S1, r, h1, fun v H1 F1 O1 st1 r1 ro => ?_⟩
  cases eg : o1.get S1 with
  | none => rw [eg] at h2; cases h2
  | some x =>
    rw [eg] at h2
    cases x with
    | xo c fs =>
      dsimp only at h2
      split at h2
      · rename_i hh
        cases h2
        obtain ⟨a, C, ns, vs, ds, rfl, rfl, a1, a2, a3, a4⟩ := view_xo (r1.view ro eg)
        have hmc := clsOf_iv (show clsOf X.mg c = some C from a1)
        obtain ⟨C1, b1, T1⟩ := (hC.ex _ hh.1).ex
        rw [hmc] at b1
        cases b1
        obtain ⟨C', b1, b2⟩ := (hB _ hh.2).ex
        rw [show X.mg (c, Ts, true).1 = some (.ref C) from hmc] at b1
        cases b1
        exact ⟨F1, a, C, ns, vs, .ty Ts, .type Ts, true, rfl, r1.bs.fh, a2, T1, fun u h => h, b2, k (.bl true) H1 F1 O1 st1 r1 (.bl true)⟩
      · cases h2
    | _ => cases h2
end
@[simp] theorem mMkX_ap (c : Str) (ns : List Str) (f : FA) (S : SS) : mMkX c ns f S = (f S).bind fun os S1 => match forceAll os S1 with
  | some (ds, S2) => if ds.length = ns.length then .ok (.d (.xo c ((ns.zip ds).reverse))) S2 else .no
  | none => .no := (rfl)
@[simp] theorem mMkT_ap (c : Str) (S : SS) : mMkT c S = .ok (.d (.xo c [])) S := (rfl)
@[simp] theorem eXo_ap (cs : List Str) (xf : List (Str × Str)) (f : Str) (fe : FE) (S : SS) : eXo cs xf f fe S = (fe S).bind fun o S1 => match o.get S1 with
  | some (.xo c fs) => (match fs.lookup f with
    | some d => if c ∈ cs ∧ (c, f) ∈ xf then .ok (.d d) S1 else .no
    | none => .no)
  | _ => .no := (rfl)
@[simp] theorem mIsXo_ap (isa : Isa) (cs : List Str) (d : Str) (fe : FE) (S : SS) : mIsXo isa cs d fe S = (fe S).bind fun o S1 => match o.get S1 with
  | some (.xo c _) => (match isa c d with
    | some b => if c ∈ cs then .ok (.d (.bl b)) S1 else .no
    | none => .no)
  | _ => .no := (rfl)
@[simp] theorem mIsXb_ap (xb : List (Str × String × Bool)) (cs : List Str) (T : String) (fe : FE) (S : SS) : mIsXb xb cs T fe S = (fe S).bind fun o S1 => match o.get S1 with
  | some (.xo c _) => if c ∈ cs ∧ (c, T, true) ∈ xb then .ok (.d (.bl true)) S1 else .no
  | _ => .no := (rfl)
set_option maxHeartbeats 2000000
noncomputable def isaT : Isa := isaL (("Astray", "Astray", true) :: ("Astray", "BadDef", false) :: ("Astray", "BadItem", false) :: ("Astray", "BadRun", false) :: ("Astray", "Large", false) :: ("Astray", "Loose", false) :: ("Astray", "MeltError", true) :: ("Astray", "NoChoice", false) :: ("Astray", "NoDef", false) :: ("Astray", "NoPath", false) :: ("Astray", "NoRow", false) :: ("Astray", "NoText", false) :: ("Astray", "Nothing", false) :: ("Astray", "Stopped", false) :: ("Astray", "TooMany", false) :: ("Astray", "Twice", false) :: ("Astray", "Unfit", false) :: ("BadDef", "Astray", false) :: ("BadDef", "BadDef", true) :: ("BadDef", "BadItem", false) :: ("BadDef", "BadRun", false) :: ("BadDef", "Large", false) :: ("BadDef", "Loose", false) :: ("BadDef", "MeltError", true) :: ("BadDef", "NoChoice", false) :: ("BadDef", "NoDef", false) :: ("BadDef", "NoPath", false) :: ("BadDef", "NoRow", false) :: ("BadDef", "NoText", false) :: ("BadDef", "Nothing", false) :: ("BadDef", "Stopped", false) :: ("BadDef", "TooMany", false) :: ("BadDef", "Twice", false) :: ("BadDef", "Unfit", false) :: ("BadItem", "Astray", false) :: ("BadItem", "BadDef", false) :: ("BadItem", "BadItem", true) :: ("BadItem", "BadRun", false) :: ("BadItem", "Large", false) :: ("BadItem", "Loose", false) :: ("BadItem", "MeltError", true) :: ("BadItem", "NoChoice", false) :: ("BadItem", "NoDef", false) :: ("BadItem", "NoPath", false) :: ("BadItem", "NoRow", false) :: ("BadItem", "NoText", false) :: ("BadItem", "Nothing", false) :: ("BadItem", "Stopped", false) :: ("BadItem", "TooMany", false) :: ("BadItem", "Twice", false) :: ("BadItem", "Unfit", false) :: ("BadRun", "Astray", false) :: ("BadRun", "BadDef", false) :: ("BadRun", "BadItem", false) :: ("BadRun", "BadRun", true) :: ("BadRun", "Large", false) :: ("BadRun", "Loose", false) :: ("BadRun", "MeltError", true) :: ("BadRun", "NoChoice", false) :: ("BadRun", "NoDef", false) :: ("BadRun", "NoPath", false) :: ("BadRun", "NoRow", false) :: ("BadRun", "NoText", false) :: ("BadRun", "Nothing", false) :: ("BadRun", "Stopped", false) :: ("BadRun", "TooMany", false) :: ("BadRun", "Twice", false) :: ("BadRun", "Unfit", false) :: ("Large", "Astray", false) :: ("Large", "BadDef", false) :: ("Large", "BadItem", false) :: ("Large", "BadRun", false) :: ("Large", "Large", true) :: ("Large", "Loose", false) :: ("Large", "MeltError", true) :: ("Large", "NoChoice", false) :: ("Large", "NoDef", false) :: ("Large", "NoPath", false) :: ("Large", "NoRow", false) :: ("Large", "NoText", false) :: ("Large", "Nothing", false) :: ("Large", "Stopped", false) :: ("Large", "TooMany", false) :: ("Large", "Twice", false) :: ("Large", "Unfit", false) :: ("Loose", "Astray", false) :: ("Loose", "BadDef", false) :: ("Loose", "BadItem", false) :: ("Loose", "BadRun", false) :: ("Loose", "Large", false) :: ("Loose", "Loose", true) :: ("Loose", "MeltError", true) :: ("Loose", "NoChoice", false) :: ("Loose", "NoDef", false) :: ("Loose", "NoPath", false) :: ("Loose", "NoRow", false) :: ("Loose", "NoText", false) :: ("Loose", "Nothing", false) :: ("Loose", "Stopped", false) :: ("Loose", "TooMany", false) :: ("Loose", "Twice", false) :: ("Loose", "Unfit", false) :: ("MeltError", "Astray", false) :: ("MeltError", "BadDef", false) :: ("MeltError", "BadItem", false) :: ("MeltError", "BadRun", false) :: ("MeltError", "Large", false) :: ("MeltError", "Loose", false) :: ("MeltError", "MeltError", true) :: ("MeltError", "NoChoice", false) :: ("MeltError", "NoDef", false) :: ("MeltError", "NoPath", false) :: ("MeltError", "NoRow", false) :: ("MeltError", "NoText", false) :: ("MeltError", "Nothing", false) :: ("MeltError", "Stopped", false) :: ("MeltError", "TooMany", false) :: ("MeltError", "Twice", false) :: ("MeltError", "Unfit", false) :: ("NoChoice", "Astray", false) :: ("NoChoice", "BadDef", false) :: ("NoChoice", "BadItem", false) :: ("NoChoice", "BadRun", false) :: ("NoChoice", "Large", false) :: ("NoChoice", "Loose", false) :: ("NoChoice", "MeltError", true) :: ("NoChoice", "NoChoice", true) :: ("NoChoice", "NoDef", false) :: ("NoChoice", "NoPath", false) :: ("NoChoice", "NoRow", false) :: ("NoChoice", "NoText", false) :: ("NoChoice", "Nothing", false) :: ("NoChoice", "Stopped", false) :: ("NoChoice", "TooMany", false) :: ("NoChoice", "Twice", false) :: ("NoChoice", "Unfit", false) :: ("NoDef", "Astray", false) :: ("NoDef", "BadDef", false) :: ("NoDef", "BadItem", false) :: ("NoDef", "BadRun", false) :: ("NoDef", "Large", false) :: ("NoDef", "Loose", false) :: ("NoDef", "MeltError", true) :: ("NoDef", "NoChoice", false) :: ("NoDef", "NoDef", true) :: ("NoDef", "NoPath", false) :: ("NoDef", "NoRow", false) :: ("NoDef", "NoText", false) :: ("NoDef", "Nothing", false) :: ("NoDef", "Stopped", false) :: ("NoDef", "TooMany", false) :: ("NoDef", "Twice", false) :: ("NoDef", "Unfit", false) :: ("NoPath", "Astray", false) :: ("NoPath", "BadDef", false) :: ("NoPath", "BadItem", false) :: ("NoPath", "BadRun", false) :: ("NoPath", "Large", false) :: ("NoPath", "Loose", false) :: ("NoPath", "MeltError", true) :: ("NoPath", "NoChoice", false) :: ("NoPath", "NoDef", false) :: ("NoPath", "NoPath", true) :: ("NoPath", "NoRow", false) :: ("NoPath", "NoText", false) :: ("NoPath", "Nothing", false) :: ("NoPath", "Stopped", false) :: ("NoPath", "TooMany", false) :: ("NoPath", "Twice", false) :: ("NoPath", "Unfit", false) :: ("NoRow", "Astray", false) :: ("NoRow", "BadDef", false) :: ("NoRow", "BadItem", false) :: ("NoRow", "BadRun", false) :: ("NoRow", "Large", false) :: ("NoRow", "Loose", false) :: ("NoRow", "MeltError", true) :: ("NoRow", "NoChoice", false) :: ("NoRow", "NoDef", false) :: ("NoRow", "NoPath", false) :: ("NoRow", "NoRow", true) :: ("NoRow", "NoText", false) :: ("NoRow", "Nothing", false) :: ("NoRow", "Stopped", false) :: ("NoRow", "TooMany", false) :: ("NoRow", "Twice", false) :: ("NoRow", "Unfit", false) :: ("NoText", "Astray", false) :: ("NoText", "BadDef", false) :: ("NoText", "BadItem", false) :: ("NoText", "BadRun", false) :: ("NoText", "Large", false) :: ("NoText", "Loose", false) :: ("NoText", "MeltError", true) :: ("NoText", "NoChoice", false) :: ("NoText", "NoDef", false) :: ("NoText", "NoPath", false) :: ("NoText", "NoRow", false) :: ("NoText", "NoText", true) :: ("NoText", "Nothing", false) :: ("NoText", "Stopped", false) :: ("NoText", "TooMany", false) :: ("NoText", "Twice", false) :: ("NoText", "Unfit", false) :: ("Nothing", "Astray", false) :: ("Nothing", "BadDef", false) :: ("Nothing", "BadItem", false) :: ("Nothing", "BadRun", false) :: ("Nothing", "Large", false) :: ("Nothing", "Loose", false) :: ("Nothing", "MeltError", true) :: ("Nothing", "NoChoice", false) :: ("Nothing", "NoDef", false) :: ("Nothing", "NoPath", false) :: ("Nothing", "NoRow", false) :: ("Nothing", "NoText", false) :: ("Nothing", "Nothing", true) :: ("Nothing", "Stopped", false) :: ("Nothing", "TooMany", false) :: ("Nothing", "Twice", false) :: ("Nothing", "Unfit", false) :: ("Stopped", "Astray", false) :: ("Stopped", "BadDef", false) :: ("Stopped", "BadItem", false) :: ("Stopped", "BadRun", false) :: ("Stopped", "Large", false) :: ("Stopped", "Loose", false) :: ("Stopped", "MeltError", true) :: ("Stopped", "NoChoice", false) :: ("Stopped", "NoDef", false) :: ("Stopped", "NoPath", false) :: ("Stopped", "NoRow", false) :: ("Stopped", "NoText", false) :: ("Stopped", "Nothing", false) :: ("Stopped", "Stopped", true) :: ("Stopped", "TooMany", false) :: ("Stopped", "Twice", false) :: ("Stopped", "Unfit", false) :: ("TooMany", "Astray", false) :: ("TooMany", "BadDef", false) :: ("TooMany", "BadItem", false) :: ("TooMany", "BadRun", false) :: ("TooMany", "Large", false) :: ("TooMany", "Loose", false) :: ("TooMany", "MeltError", true) :: ("TooMany", "NoChoice", false) :: ("TooMany", "NoDef", false) :: ("TooMany", "NoPath", false) :: ("TooMany", "NoRow", false) :: ("TooMany", "NoText", false) :: ("TooMany", "Nothing", false) :: ("TooMany", "Stopped", false) :: ("TooMany", "TooMany", true) :: ("TooMany", "Twice", false) :: ("TooMany", "Unfit", false) :: ("Twice", "Astray", false) :: ("Twice", "BadDef", false) :: ("Twice", "BadItem", false) :: ("Twice", "BadRun", false) :: ("Twice", "Large", false) :: ("Twice", "Loose", false) :: ("Twice", "MeltError", true) :: ("Twice", "NoChoice", false) :: ("Twice", "NoDef", false) :: ("Twice", "NoPath", false) :: ("Twice", "NoRow", false) :: ("Twice", "NoText", false) :: ("Twice", "Nothing", false) :: ("Twice", "Stopped", false) :: ("Twice", "TooMany", false) :: ("Twice", "Twice", true) :: ("Twice", "Unfit", false) :: ("Unfit", "Astray", false) :: ("Unfit", "BadDef", false) :: ("Unfit", "BadItem", false) :: ("Unfit", "BadRun", false) :: ("Unfit", "Large", false) :: ("Unfit", "Loose", false) :: ("Unfit", "MeltError", true) :: ("Unfit", "NoChoice", false) :: ("Unfit", "NoDef", false) :: ("Unfit", "NoPath", false) :: ("Unfit", "NoRow", false) :: ("Unfit", "NoText", false) :: ("Unfit", "Nothing", false) :: ("Unfit", "Stopped", false) :: ("Unfit", "TooMany", false) :: ("Unfit", "Twice", false) :: ("Unfit", "Unfit", true) :: ([] : List (Str × Str × Bool)))
@[simp] theorem isaT_0 : isaT "Astray" "Astray" = some true := by decide +kernel
@[simp] theorem isaT_1 : isaT "Astray" "BadDef" = some false := by decide +kernel
@[simp] theorem isaT_2 : isaT "Astray" "BadItem" = some false := by decide +kernel
@[simp] theorem isaT_3 : isaT "Astray" "BadRun" = some false := by decide +kernel
@[simp] theorem isaT_4 : isaT "Astray" "Large" = some false := by decide +kernel
@[simp] theorem isaT_5 : isaT "Astray" "Loose" = some false := by decide +kernel
@[simp] theorem isaT_6 : isaT "Astray" "MeltError" = some true := by decide +kernel
@[simp] theorem isaT_7 : isaT "Astray" "NoChoice" = some false := by decide +kernel
@[simp] theorem isaT_8 : isaT "Astray" "NoDef" = some false := by decide +kernel
@[simp] theorem isaT_9 : isaT "Astray" "NoPath" = some false := by decide +kernel
@[simp] theorem isaT_10 : isaT "Astray" "NoRow" = some false := by decide +kernel
@[simp] theorem isaT_11 : isaT "Astray" "NoText" = some false := by decide +kernel
@[simp] theorem isaT_12 : isaT "Astray" "Nothing" = some false := by decide +kernel
@[simp] theorem isaT_13 : isaT "Astray" "Stopped" = some false := by decide +kernel
@[simp] theorem isaT_14 : isaT "Astray" "TooMany" = some false := by decide +kernel
@[simp] theorem isaT_15 : isaT "Astray" "Twice" = some false := by decide +kernel
@[simp] theorem isaT_16 : isaT "Astray" "Unfit" = some false := by decide +kernel
@[simp] theorem isaT_17 : isaT "BadDef" "Astray" = some false := by decide +kernel
@[simp] theorem isaT_18 : isaT "BadDef" "BadDef" = some true := by decide +kernel
@[simp] theorem isaT_19 : isaT "BadDef" "BadItem" = some false := by decide +kernel
@[simp] theorem isaT_20 : isaT "BadDef" "BadRun" = some false := by decide +kernel
@[simp] theorem isaT_21 : isaT "BadDef" "Large" = some false := by decide +kernel
@[simp] theorem isaT_22 : isaT "BadDef" "Loose" = some false := by decide +kernel
@[simp] theorem isaT_23 : isaT "BadDef" "MeltError" = some true := by decide +kernel
@[simp] theorem isaT_24 : isaT "BadDef" "NoChoice" = some false := by decide +kernel
@[simp] theorem isaT_25 : isaT "BadDef" "NoDef" = some false := by decide +kernel
@[simp] theorem isaT_26 : isaT "BadDef" "NoPath" = some false := by decide +kernel
@[simp] theorem isaT_27 : isaT "BadDef" "NoRow" = some false := by decide +kernel
@[simp] theorem isaT_28 : isaT "BadDef" "NoText" = some false := by decide +kernel
@[simp] theorem isaT_29 : isaT "BadDef" "Nothing" = some false := by decide +kernel
@[simp] theorem isaT_30 : isaT "BadDef" "Stopped" = some false := by decide +kernel
@[simp] theorem isaT_31 : isaT "BadDef" "TooMany" = some false := by decide +kernel
@[simp] theorem isaT_32 : isaT "BadDef" "Twice" = some false := by decide +kernel
@[simp] theorem isaT_33 : isaT "BadDef" "Unfit" = some false := by decide +kernel
@[simp] theorem isaT_34 : isaT "BadItem" "Astray" = some false := by decide +kernel
@[simp] theorem isaT_35 : isaT "BadItem" "BadDef" = some false := by decide +kernel
@[simp] theorem isaT_36 : isaT "BadItem" "BadItem" = some true := by decide +kernel
@[simp] theorem isaT_37 : isaT "BadItem" "BadRun" = some false := by decide +kernel
@[simp] theorem isaT_38 : isaT "BadItem" "Large" = some false := by decide +kernel
@[simp] theorem isaT_39 : isaT "BadItem" "Loose" = some false := by decide +kernel
@[simp] theorem isaT_40 : isaT "BadItem" "MeltError" = some true := by decide +kernel
@[simp] theorem isaT_41 : isaT "BadItem" "NoChoice" = some false := by decide +kernel
@[simp] theorem isaT_42 : isaT "BadItem" "NoDef" = some false := by decide +kernel
@[simp] theorem isaT_43 : isaT "BadItem" "NoPath" = some false := by decide +kernel
@[simp] theorem isaT_44 : isaT "BadItem" "NoRow" = some false := by decide +kernel
@[simp] theorem isaT_45 : isaT "BadItem" "NoText" = some false := by decide +kernel
@[simp] theorem isaT_46 : isaT "BadItem" "Nothing" = some false := by decide +kernel
@[simp] theorem isaT_47 : isaT "BadItem" "Stopped" = some false := by decide +kernel
@[simp] theorem isaT_48 : isaT "BadItem" "TooMany" = some false := by decide +kernel
@[simp] theorem isaT_49 : isaT "BadItem" "Twice" = some false := by decide +kernel
@[simp] theorem isaT_50 : isaT "BadItem" "Unfit" = some false := by decide +kernel
@[simp] theorem isaT_51 : isaT "BadRun" "Astray" = some false := by decide +kernel
@[simp] theorem isaT_52 : isaT "BadRun" "BadDef" = some false := by decide +kernel
@[simp] theorem isaT_53 : isaT "BadRun" "BadItem" = some false := by decide +kernel
@[simp] theorem isaT_54 : isaT "BadRun" "BadRun" = some true := by decide +kernel
@[simp] theorem isaT_55 : isaT "BadRun" "Large" = some false := by decide +kernel
@[simp] theorem isaT_56 : isaT "BadRun" "Loose" = some false := by decide +kernel
@[simp] theorem isaT_57 : isaT "BadRun" "MeltError" = some true := by decide +kernel
@[simp] theorem isaT_58 : isaT "BadRun" "NoChoice" = some false := by decide +kernel
@[simp] theorem isaT_59 : isaT "BadRun" "NoDef" = some false := by decide +kernel
@[simp] theorem isaT_60 : isaT "BadRun" "NoPath" = some false := by decide +kernel
@[simp] theorem isaT_61 : isaT "BadRun" "NoRow" = some false := by decide +kernel
@[simp] theorem isaT_62 : isaT "BadRun" "NoText" = some false := by decide +kernel
@[simp] theorem isaT_63 : isaT "BadRun" "Nothing" = some false := by decide +kernel
@[simp] theorem isaT_64 : isaT "BadRun" "Stopped" = some false := by decide +kernel
@[simp] theorem isaT_65 : isaT "BadRun" "TooMany" = some false := by decide +kernel
@[simp] theorem isaT_66 : isaT "BadRun" "Twice" = some false := by decide +kernel
@[simp] theorem isaT_67 : isaT "BadRun" "Unfit" = some false := by decide +kernel
@[simp] theorem isaT_68 : isaT "Large" "Astray" = some false := by decide +kernel
@[simp] theorem isaT_69 : isaT "Large" "BadDef" = some false := by decide +kernel
@[simp] theorem isaT_70 : isaT "Large" "BadItem" = some false := by decide +kernel
@[simp] theorem isaT_71 : isaT "Large" "BadRun" = some false := by decide +kernel
@[simp] theorem isaT_72 : isaT "Large" "Large" = some true := by decide +kernel
@[simp] theorem isaT_73 : isaT "Large" "Loose" = some false := by decide +kernel
@[simp] theorem isaT_74 : isaT "Large" "MeltError" = some true := by decide +kernel
@[simp] theorem isaT_75 : isaT "Large" "NoChoice" = some false := by decide +kernel
@[simp] theorem isaT_76 : isaT "Large" "NoDef" = some false := by decide +kernel
@[simp] theorem isaT_77 : isaT "Large" "NoPath" = some false := by decide +kernel
@[simp] theorem isaT_78 : isaT "Large" "NoRow" = some false := by decide +kernel
@[simp] theorem isaT_79 : isaT "Large" "NoText" = some false := by decide +kernel
@[simp] theorem isaT_80 : isaT "Large" "Nothing" = some false := by decide +kernel
@[simp] theorem isaT_81 : isaT "Large" "Stopped" = some false := by decide +kernel
@[simp] theorem isaT_82 : isaT "Large" "TooMany" = some false := by decide +kernel
@[simp] theorem isaT_83 : isaT "Large" "Twice" = some false := by decide +kernel
@[simp] theorem isaT_84 : isaT "Large" "Unfit" = some false := by decide +kernel
@[simp] theorem isaT_85 : isaT "Loose" "Astray" = some false := by decide +kernel
@[simp] theorem isaT_86 : isaT "Loose" "BadDef" = some false := by decide +kernel
@[simp] theorem isaT_87 : isaT "Loose" "BadItem" = some false := by decide +kernel
@[simp] theorem isaT_88 : isaT "Loose" "BadRun" = some false := by decide +kernel
@[simp] theorem isaT_89 : isaT "Loose" "Large" = some false := by decide +kernel
@[simp] theorem isaT_90 : isaT "Loose" "Loose" = some true := by decide +kernel
@[simp] theorem isaT_91 : isaT "Loose" "MeltError" = some true := by decide +kernel
@[simp] theorem isaT_92 : isaT "Loose" "NoChoice" = some false := by decide +kernel
@[simp] theorem isaT_93 : isaT "Loose" "NoDef" = some false := by decide +kernel
@[simp] theorem isaT_94 : isaT "Loose" "NoPath" = some false := by decide +kernel
@[simp] theorem isaT_95 : isaT "Loose" "NoRow" = some false := by decide +kernel
@[simp] theorem isaT_96 : isaT "Loose" "NoText" = some false := by decide +kernel
@[simp] theorem isaT_97 : isaT "Loose" "Nothing" = some false := by decide +kernel
@[simp] theorem isaT_98 : isaT "Loose" "Stopped" = some false := by decide +kernel
@[simp] theorem isaT_99 : isaT "Loose" "TooMany" = some false := by decide +kernel
@[simp] theorem isaT_100 : isaT "Loose" "Twice" = some false := by decide +kernel
@[simp] theorem isaT_101 : isaT "Loose" "Unfit" = some false := by decide +kernel
@[simp] theorem isaT_102 : isaT "MeltError" "Astray" = some false := by decide +kernel
@[simp] theorem isaT_103 : isaT "MeltError" "BadDef" = some false := by decide +kernel
@[simp] theorem isaT_104 : isaT "MeltError" "BadItem" = some false := by decide +kernel
@[simp] theorem isaT_105 : isaT "MeltError" "BadRun" = some false := by decide +kernel
@[simp] theorem isaT_106 : isaT "MeltError" "Large" = some false := by decide +kernel
@[simp] theorem isaT_107 : isaT "MeltError" "Loose" = some false := by decide +kernel
@[simp] theorem isaT_108 : isaT "MeltError" "MeltError" = some true := by decide +kernel
@[simp] theorem isaT_109 : isaT "MeltError" "NoChoice" = some false := by decide +kernel
@[simp] theorem isaT_110 : isaT "MeltError" "NoDef" = some false := by decide +kernel
@[simp] theorem isaT_111 : isaT "MeltError" "NoPath" = some false := by decide +kernel
@[simp] theorem isaT_112 : isaT "MeltError" "NoRow" = some false := by decide +kernel
@[simp] theorem isaT_113 : isaT "MeltError" "NoText" = some false := by decide +kernel
@[simp] theorem isaT_114 : isaT "MeltError" "Nothing" = some false := by decide +kernel
@[simp] theorem isaT_115 : isaT "MeltError" "Stopped" = some false := by decide +kernel
@[simp] theorem isaT_116 : isaT "MeltError" "TooMany" = some false := by decide +kernel
@[simp] theorem isaT_117 : isaT "MeltError" "Twice" = some false := by decide +kernel
@[simp] theorem isaT_118 : isaT "MeltError" "Unfit" = some false := by decide +kernel
@[simp] theorem isaT_119 : isaT "NoChoice" "Astray" = some false := by decide +kernel
@[simp] theorem isaT_120 : isaT "NoChoice" "BadDef" = some false := by decide +kernel
@[simp] theorem isaT_121 : isaT "NoChoice" "BadItem" = some false := by decide +kernel
@[simp] theorem isaT_122 : isaT "NoChoice" "BadRun" = some false := by decide +kernel
@[simp] theorem isaT_123 : isaT "NoChoice" "Large" = some false := by decide +kernel
@[simp] theorem isaT_124 : isaT "NoChoice" "Loose" = some false := by decide +kernel
@[simp] theorem isaT_125 : isaT "NoChoice" "MeltError" = some true := by decide +kernel
@[simp] theorem isaT_126 : isaT "NoChoice" "NoChoice" = some true := by decide +kernel
@[simp] theorem isaT_127 : isaT "NoChoice" "NoDef" = some false := by decide +kernel
@[simp] theorem isaT_128 : isaT "NoChoice" "NoPath" = some false := by decide +kernel
@[simp] theorem isaT_129 : isaT "NoChoice" "NoRow" = some false := by decide +kernel
@[simp] theorem isaT_130 : isaT "NoChoice" "NoText" = some false := by decide +kernel
@[simp] theorem isaT_131 : isaT "NoChoice" "Nothing" = some false := by decide +kernel
@[simp] theorem isaT_132 : isaT "NoChoice" "Stopped" = some false := by decide +kernel
@[simp] theorem isaT_133 : isaT "NoChoice" "TooMany" = some false := by decide +kernel
@[simp] theorem isaT_134 : isaT "NoChoice" "Twice" = some false := by decide +kernel
@[simp] theorem isaT_135 : isaT "NoChoice" "Unfit" = some false := by decide +kernel
@[simp] theorem isaT_136 : isaT "NoDef" "Astray" = some false := by decide +kernel
@[simp] theorem isaT_137 : isaT "NoDef" "BadDef" = some false := by decide +kernel
@[simp] theorem isaT_138 : isaT "NoDef" "BadItem" = some false := by decide +kernel
@[simp] theorem isaT_139 : isaT "NoDef" "BadRun" = some false := by decide +kernel
@[simp] theorem isaT_140 : isaT "NoDef" "Large" = some false := by decide +kernel
@[simp] theorem isaT_141 : isaT "NoDef" "Loose" = some false := by decide +kernel
@[simp] theorem isaT_142 : isaT "NoDef" "MeltError" = some true := by decide +kernel
@[simp] theorem isaT_143 : isaT "NoDef" "NoChoice" = some false := by decide +kernel
@[simp] theorem isaT_144 : isaT "NoDef" "NoDef" = some true := by decide +kernel
@[simp] theorem isaT_145 : isaT "NoDef" "NoPath" = some false := by decide +kernel
@[simp] theorem isaT_146 : isaT "NoDef" "NoRow" = some false := by decide +kernel
@[simp] theorem isaT_147 : isaT "NoDef" "NoText" = some false := by decide +kernel
@[simp] theorem isaT_148 : isaT "NoDef" "Nothing" = some false := by decide +kernel
@[simp] theorem isaT_149 : isaT "NoDef" "Stopped" = some false := by decide +kernel
@[simp] theorem isaT_150 : isaT "NoDef" "TooMany" = some false := by decide +kernel
@[simp] theorem isaT_151 : isaT "NoDef" "Twice" = some false := by decide +kernel
@[simp] theorem isaT_152 : isaT "NoDef" "Unfit" = some false := by decide +kernel
@[simp] theorem isaT_153 : isaT "NoPath" "Astray" = some false := by decide +kernel
@[simp] theorem isaT_154 : isaT "NoPath" "BadDef" = some false := by decide +kernel
@[simp] theorem isaT_155 : isaT "NoPath" "BadItem" = some false := by decide +kernel
@[simp] theorem isaT_156 : isaT "NoPath" "BadRun" = some false := by decide +kernel
@[simp] theorem isaT_157 : isaT "NoPath" "Large" = some false := by decide +kernel
@[simp] theorem isaT_158 : isaT "NoPath" "Loose" = some false := by decide +kernel
@[simp] theorem isaT_159 : isaT "NoPath" "MeltError" = some true := by decide +kernel
@[simp] theorem isaT_160 : isaT "NoPath" "NoChoice" = some false := by decide +kernel
@[simp] theorem isaT_161 : isaT "NoPath" "NoDef" = some false := by decide +kernel
@[simp] theorem isaT_162 : isaT "NoPath" "NoPath" = some true := by decide +kernel
@[simp] theorem isaT_163 : isaT "NoPath" "NoRow" = some false := by decide +kernel
@[simp] theorem isaT_164 : isaT "NoPath" "NoText" = some false := by decide +kernel
@[simp] theorem isaT_165 : isaT "NoPath" "Nothing" = some false := by decide +kernel
@[simp] theorem isaT_166 : isaT "NoPath" "Stopped" = some false := by decide +kernel
@[simp] theorem isaT_167 : isaT "NoPath" "TooMany" = some false := by decide +kernel
@[simp] theorem isaT_168 : isaT "NoPath" "Twice" = some false := by decide +kernel
@[simp] theorem isaT_169 : isaT "NoPath" "Unfit" = some false := by decide +kernel
@[simp] theorem isaT_170 : isaT "NoRow" "Astray" = some false := by decide +kernel
@[simp] theorem isaT_171 : isaT "NoRow" "BadDef" = some false := by decide +kernel
@[simp] theorem isaT_172 : isaT "NoRow" "BadItem" = some false := by decide +kernel
@[simp] theorem isaT_173 : isaT "NoRow" "BadRun" = some false := by decide +kernel
@[simp] theorem isaT_174 : isaT "NoRow" "Large" = some false := by decide +kernel
@[simp] theorem isaT_175 : isaT "NoRow" "Loose" = some false := by decide +kernel
@[simp] theorem isaT_176 : isaT "NoRow" "MeltError" = some true := by decide +kernel
@[simp] theorem isaT_177 : isaT "NoRow" "NoChoice" = some false := by decide +kernel
@[simp] theorem isaT_178 : isaT "NoRow" "NoDef" = some false := by decide +kernel
@[simp] theorem isaT_179 : isaT "NoRow" "NoPath" = some false := by decide +kernel
@[simp] theorem isaT_180 : isaT "NoRow" "NoRow" = some true := by decide +kernel
@[simp] theorem isaT_181 : isaT "NoRow" "NoText" = some false := by decide +kernel
@[simp] theorem isaT_182 : isaT "NoRow" "Nothing" = some false := by decide +kernel
@[simp] theorem isaT_183 : isaT "NoRow" "Stopped" = some false := by decide +kernel
@[simp] theorem isaT_184 : isaT "NoRow" "TooMany" = some false := by decide +kernel
@[simp] theorem isaT_185 : isaT "NoRow" "Twice" = some false := by decide +kernel
@[simp] theorem isaT_186 : isaT "NoRow" "Unfit" = some false := by decide +kernel
@[simp] theorem isaT_187 : isaT "NoText" "Astray" = some false := by decide +kernel
@[simp] theorem isaT_188 : isaT "NoText" "BadDef" = some false := by decide +kernel
@[simp] theorem isaT_189 : isaT "NoText" "BadItem" = some false := by decide +kernel
@[simp] theorem isaT_190 : isaT "NoText" "BadRun" = some false := by decide +kernel
@[simp] theorem isaT_191 : isaT "NoText" "Large" = some false := by decide +kernel
@[simp] theorem isaT_192 : isaT "NoText" "Loose" = some false := by decide +kernel
@[simp] theorem isaT_193 : isaT "NoText" "MeltError" = some true := by decide +kernel
@[simp] theorem isaT_194 : isaT "NoText" "NoChoice" = some false := by decide +kernel
@[simp] theorem isaT_195 : isaT "NoText" "NoDef" = some false := by decide +kernel
@[simp] theorem isaT_196 : isaT "NoText" "NoPath" = some false := by decide +kernel
@[simp] theorem isaT_197 : isaT "NoText" "NoRow" = some false := by decide +kernel
@[simp] theorem isaT_198 : isaT "NoText" "NoText" = some true := by decide +kernel
@[simp] theorem isaT_199 : isaT "NoText" "Nothing" = some false := by decide +kernel
@[simp] theorem isaT_200 : isaT "NoText" "Stopped" = some false := by decide +kernel
@[simp] theorem isaT_201 : isaT "NoText" "TooMany" = some false := by decide +kernel
@[simp] theorem isaT_202 : isaT "NoText" "Twice" = some false := by decide +kernel
@[simp] theorem isaT_203 : isaT "NoText" "Unfit" = some false := by decide +kernel
@[simp] theorem isaT_204 : isaT "Nothing" "Astray" = some false := by decide +kernel
@[simp] theorem isaT_205 : isaT "Nothing" "BadDef" = some false := by decide +kernel
@[simp] theorem isaT_206 : isaT "Nothing" "BadItem" = some false := by decide +kernel
@[simp] theorem isaT_207 : isaT "Nothing" "BadRun" = some false := by decide +kernel
@[simp] theorem isaT_208 : isaT "Nothing" "Large" = some false := by decide +kernel
@[simp] theorem isaT_209 : isaT "Nothing" "Loose" = some false := by decide +kernel
@[simp] theorem isaT_210 : isaT "Nothing" "MeltError" = some true := by decide +kernel
@[simp] theorem isaT_211 : isaT "Nothing" "NoChoice" = some false := by decide +kernel
@[simp] theorem isaT_212 : isaT "Nothing" "NoDef" = some false := by decide +kernel
@[simp] theorem isaT_213 : isaT "Nothing" "NoPath" = some false := by decide +kernel
@[simp] theorem isaT_214 : isaT "Nothing" "NoRow" = some false := by decide +kernel
@[simp] theorem isaT_215 : isaT "Nothing" "NoText" = some false := by decide +kernel
@[simp] theorem isaT_216 : isaT "Nothing" "Nothing" = some true := by decide +kernel
@[simp] theorem isaT_217 : isaT "Nothing" "Stopped" = some false := by decide +kernel
@[simp] theorem isaT_218 : isaT "Nothing" "TooMany" = some false := by decide +kernel
@[simp] theorem isaT_219 : isaT "Nothing" "Twice" = some false := by decide +kernel
@[simp] theorem isaT_220 : isaT "Nothing" "Unfit" = some false := by decide +kernel
@[simp] theorem isaT_221 : isaT "Stopped" "Astray" = some false := by decide +kernel
@[simp] theorem isaT_222 : isaT "Stopped" "BadDef" = some false := by decide +kernel
@[simp] theorem isaT_223 : isaT "Stopped" "BadItem" = some false := by decide +kernel
@[simp] theorem isaT_224 : isaT "Stopped" "BadRun" = some false := by decide +kernel
@[simp] theorem isaT_225 : isaT "Stopped" "Large" = some false := by decide +kernel
@[simp] theorem isaT_226 : isaT "Stopped" "Loose" = some false := by decide +kernel
@[simp] theorem isaT_227 : isaT "Stopped" "MeltError" = some true := by decide +kernel
@[simp] theorem isaT_228 : isaT "Stopped" "NoChoice" = some false := by decide +kernel
@[simp] theorem isaT_229 : isaT "Stopped" "NoDef" = some false := by decide +kernel
@[simp] theorem isaT_230 : isaT "Stopped" "NoPath" = some false := by decide +kernel
@[simp] theorem isaT_231 : isaT "Stopped" "NoRow" = some false := by decide +kernel
@[simp] theorem isaT_232 : isaT "Stopped" "NoText" = some false := by decide +kernel
@[simp] theorem isaT_233 : isaT "Stopped" "Nothing" = some false := by decide +kernel
@[simp] theorem isaT_234 : isaT "Stopped" "Stopped" = some true := by decide +kernel
@[simp] theorem isaT_235 : isaT "Stopped" "TooMany" = some false := by decide +kernel
@[simp] theorem isaT_236 : isaT "Stopped" "Twice" = some false := by decide +kernel
@[simp] theorem isaT_237 : isaT "Stopped" "Unfit" = some false := by decide +kernel
@[simp] theorem isaT_238 : isaT "TooMany" "Astray" = some false := by decide +kernel
@[simp] theorem isaT_239 : isaT "TooMany" "BadDef" = some false := by decide +kernel
@[simp] theorem isaT_240 : isaT "TooMany" "BadItem" = some false := by decide +kernel
@[simp] theorem isaT_241 : isaT "TooMany" "BadRun" = some false := by decide +kernel
@[simp] theorem isaT_242 : isaT "TooMany" "Large" = some false := by decide +kernel
@[simp] theorem isaT_243 : isaT "TooMany" "Loose" = some false := by decide +kernel
@[simp] theorem isaT_244 : isaT "TooMany" "MeltError" = some true := by decide +kernel
@[simp] theorem isaT_245 : isaT "TooMany" "NoChoice" = some false := by decide +kernel
@[simp] theorem isaT_246 : isaT "TooMany" "NoDef" = some false := by decide +kernel
@[simp] theorem isaT_247 : isaT "TooMany" "NoPath" = some false := by decide +kernel
@[simp] theorem isaT_248 : isaT "TooMany" "NoRow" = some false := by decide +kernel
@[simp] theorem isaT_249 : isaT "TooMany" "NoText" = some false := by decide +kernel
@[simp] theorem isaT_250 : isaT "TooMany" "Nothing" = some false := by decide +kernel
@[simp] theorem isaT_251 : isaT "TooMany" "Stopped" = some false := by decide +kernel
@[simp] theorem isaT_252 : isaT "TooMany" "TooMany" = some true := by decide +kernel
@[simp] theorem isaT_253 : isaT "TooMany" "Twice" = some false := by decide +kernel
@[simp] theorem isaT_254 : isaT "TooMany" "Unfit" = some false := by decide +kernel
@[simp] theorem isaT_255 : isaT "Twice" "Astray" = some false := by decide +kernel
@[simp] theorem isaT_256 : isaT "Twice" "BadDef" = some false := by decide +kernel
@[simp] theorem isaT_257 : isaT "Twice" "BadItem" = some false := by decide +kernel
@[simp] theorem isaT_258 : isaT "Twice" "BadRun" = some false := by decide +kernel
@[simp] theorem isaT_259 : isaT "Twice" "Large" = some false := by decide +kernel
@[simp] theorem isaT_260 : isaT "Twice" "Loose" = some false := by decide +kernel
@[simp] theorem isaT_261 : isaT "Twice" "MeltError" = some true := by decide +kernel
@[simp] theorem isaT_262 : isaT "Twice" "NoChoice" = some false := by decide +kernel
@[simp] theorem isaT_263 : isaT "Twice" "NoDef" = some false := by decide +kernel
@[simp] theorem isaT_264 : isaT "Twice" "NoPath" = some false := by decide +kernel
@[simp] theorem isaT_265 : isaT "Twice" "NoRow" = some false := by decide +kernel
@[simp] theorem isaT_266 : isaT "Twice" "NoText" = some false := by decide +kernel
@[simp] theorem isaT_267 : isaT "Twice" "Nothing" = some false := by decide +kernel
@[simp] theorem isaT_268 : isaT "Twice" "Stopped" = some false := by decide +kernel
@[simp] theorem isaT_269 : isaT "Twice" "TooMany" = some false := by decide +kernel
@[simp] theorem isaT_270 : isaT "Twice" "Twice" = some true := by decide +kernel
@[simp] theorem isaT_271 : isaT "Twice" "Unfit" = some false := by decide +kernel
@[simp] theorem isaT_272 : isaT "Unfit" "Astray" = some false := by decide +kernel
@[simp] theorem isaT_273 : isaT "Unfit" "BadDef" = some false := by decide +kernel
@[simp] theorem isaT_274 : isaT "Unfit" "BadItem" = some false := by decide +kernel
@[simp] theorem isaT_275 : isaT "Unfit" "BadRun" = some false := by decide +kernel
@[simp] theorem isaT_276 : isaT "Unfit" "Large" = some false := by decide +kernel
@[simp] theorem isaT_277 : isaT "Unfit" "Loose" = some false := by decide +kernel
@[simp] theorem isaT_278 : isaT "Unfit" "MeltError" = some true := by decide +kernel
@[simp] theorem isaT_279 : isaT "Unfit" "NoChoice" = some false := by decide +kernel
@[simp] theorem isaT_280 : isaT "Unfit" "NoDef" = some false := by decide +kernel
@[simp] theorem isaT_281 : isaT "Unfit" "NoPath" = some false := by decide +kernel
@[simp] theorem isaT_282 : isaT "Unfit" "NoRow" = some false := by decide +kernel
@[simp] theorem isaT_283 : isaT "Unfit" "NoText" = some false := by decide +kernel
@[simp] theorem isaT_284 : isaT "Unfit" "Nothing" = some false := by decide +kernel
@[simp] theorem isaT_285 : isaT "Unfit" "Stopped" = some false := by decide +kernel
@[simp] theorem isaT_286 : isaT "Unfit" "TooMany" = some false := by decide +kernel
@[simp] theorem isaT_287 : isaT "Unfit" "Twice" = some false := by decide +kernel
@[simp] theorem isaT_288 : isaT "Unfit" "Unfit" = some true := by decide +kernel
noncomputable def xcs : List Str := ["Astray", "BadDef", "BadItem", "BadRun", "Large", "Loose", "MeltError", "NoChoice", "NoDef", "NoPath", "NoRow", "NoText", "Nothing", "Stopped", "TooMany", "Twice", "Unfit"]
@[simp] theorem xcs_0 : (("Astray" : Str) ∈ xcs) = True := eq_true (by decide +kernel)
@[simp] theorem xcs_1 : (("BadDef" : Str) ∈ xcs) = True := eq_true (by decide +kernel)
@[simp] theorem xcs_2 : (("BadItem" : Str) ∈ xcs) = True := eq_true (by decide +kernel)
@[simp] theorem xcs_3 : (("BadRun" : Str) ∈ xcs) = True := eq_true (by decide +kernel)
@[simp] theorem xcs_4 : (("Large" : Str) ∈ xcs) = True := eq_true (by decide +kernel)
@[simp] theorem xcs_5 : (("Loose" : Str) ∈ xcs) = True := eq_true (by decide +kernel)
@[simp] theorem xcs_6 : (("MeltError" : Str) ∈ xcs) = True := eq_true (by decide +kernel)
@[simp] theorem xcs_7 : (("NoChoice" : Str) ∈ xcs) = True := eq_true (by decide +kernel)
@[simp] theorem xcs_8 : (("NoDef" : Str) ∈ xcs) = True := eq_true (by decide +kernel)
@[simp] theorem xcs_9 : (("NoPath" : Str) ∈ xcs) = True := eq_true (by decide +kernel)
@[simp] theorem xcs_10 : (("NoRow" : Str) ∈ xcs) = True := eq_true (by decide +kernel)
@[simp] theorem xcs_11 : (("NoText" : Str) ∈ xcs) = True := eq_true (by decide +kernel)
@[simp] theorem xcs_12 : (("Nothing" : Str) ∈ xcs) = True := eq_true (by decide +kernel)
@[simp] theorem xcs_13 : (("Stopped" : Str) ∈ xcs) = True := eq_true (by decide +kernel)
@[simp] theorem xcs_14 : (("TooMany" : Str) ∈ xcs) = True := eq_true (by decide +kernel)
@[simp] theorem xcs_15 : (("Twice" : Str) ∈ xcs) = True := eq_true (by decide +kernel)
@[simp] theorem xcs_16 : (("Unfit" : Str) ∈ xcs) = True := eq_true (by decide +kernel)
noncomputable def xfs : List (Str × Str) := [("Astray", "where"), ("Astray", "word"), ("BadDef", "at"), ("BadItem", "at"), ("BadRun", "at"), ("Large", "number"), ("Loose", "where"), ("Loose", "word"), ("NoChoice", "at"), ("NoDef", "name"), ("NoPath", "path"), ("Stopped", "at"), ("TooMany", "number"), ("Twice", "name"), ("Unfit", "where"), ("Unfit", "many")]
@[simp] theorem xfs_0 : ((("Astray", "where") : Str × Str) ∈ xfs) = True := eq_true (by decide +kernel)
@[simp] theorem xfs_1 : ((("Astray", "word") : Str × Str) ∈ xfs) = True := eq_true (by decide +kernel)
@[simp] theorem xfs_2 : ((("BadDef", "at") : Str × Str) ∈ xfs) = True := eq_true (by decide +kernel)
@[simp] theorem xfs_3 : ((("BadItem", "at") : Str × Str) ∈ xfs) = True := eq_true (by decide +kernel)
@[simp] theorem xfs_4 : ((("BadRun", "at") : Str × Str) ∈ xfs) = True := eq_true (by decide +kernel)
@[simp] theorem xfs_5 : ((("Large", "number") : Str × Str) ∈ xfs) = True := eq_true (by decide +kernel)
@[simp] theorem xfs_6 : ((("Loose", "where") : Str × Str) ∈ xfs) = True := eq_true (by decide +kernel)
@[simp] theorem xfs_7 : ((("Loose", "word") : Str × Str) ∈ xfs) = True := eq_true (by decide +kernel)
@[simp] theorem xfs_8 : ((("NoChoice", "at") : Str × Str) ∈ xfs) = True := eq_true (by decide +kernel)
@[simp] theorem xfs_9 : ((("NoDef", "name") : Str × Str) ∈ xfs) = True := eq_true (by decide +kernel)
@[simp] theorem xfs_10 : ((("NoPath", "path") : Str × Str) ∈ xfs) = True := eq_true (by decide +kernel)
@[simp] theorem xfs_11 : ((("Stopped", "at") : Str × Str) ∈ xfs) = True := eq_true (by decide +kernel)
@[simp] theorem xfs_12 : ((("TooMany", "number") : Str × Str) ∈ xfs) = True := eq_true (by decide +kernel)
@[simp] theorem xfs_13 : ((("Twice", "name") : Str × Str) ∈ xfs) = True := eq_true (by decide +kernel)
@[simp] theorem xfs_14 : ((("Unfit", "where") : Str × Str) ∈ xfs) = True := eq_true (by decide +kernel)
@[simp] theorem xfs_15 : ((("Unfit", "many") : Str × Str) ∈ xfs) = True := eq_true (by decide +kernel)
noncomputable def xbs : List (Str × String × Bool) := [("Astray", "ValueError", true), ("BadDef", "ValueError", true), ("BadItem", "ValueError", true), ("BadRun", "ValueError", true), ("Large", "ValueError", true), ("Loose", "ValueError", true), ("MeltError", "ValueError", true), ("NoChoice", "ValueError", true), ("NoDef", "ValueError", true), ("NoPath", "ValueError", true), ("NoRow", "ValueError", true), ("NoText", "ValueError", true), ("Nothing", "ValueError", true), ("Stopped", "ValueError", true), ("TooMany", "ValueError", true), ("Twice", "ValueError", true), ("Unfit", "ValueError", true)]
@[simp] theorem xbs_0 : ((("Astray", "ValueError", true) : Str × String × Bool) ∈ xbs) = True := eq_true (by decide +kernel)
@[simp] theorem xbs_1 : ((("BadDef", "ValueError", true) : Str × String × Bool) ∈ xbs) = True := eq_true (by decide +kernel)
@[simp] theorem xbs_2 : ((("BadItem", "ValueError", true) : Str × String × Bool) ∈ xbs) = True := eq_true (by decide +kernel)
@[simp] theorem xbs_3 : ((("BadRun", "ValueError", true) : Str × String × Bool) ∈ xbs) = True := eq_true (by decide +kernel)
@[simp] theorem xbs_4 : ((("Large", "ValueError", true) : Str × String × Bool) ∈ xbs) = True := eq_true (by decide +kernel)
@[simp] theorem xbs_5 : ((("Loose", "ValueError", true) : Str × String × Bool) ∈ xbs) = True := eq_true (by decide +kernel)
@[simp] theorem xbs_6 : ((("MeltError", "ValueError", true) : Str × String × Bool) ∈ xbs) = True := eq_true (by decide +kernel)
@[simp] theorem xbs_7 : ((("NoChoice", "ValueError", true) : Str × String × Bool) ∈ xbs) = True := eq_true (by decide +kernel)
@[simp] theorem xbs_8 : ((("NoDef", "ValueError", true) : Str × String × Bool) ∈ xbs) = True := eq_true (by decide +kernel)
@[simp] theorem xbs_9 : ((("NoPath", "ValueError", true) : Str × String × Bool) ∈ xbs) = True := eq_true (by decide +kernel)
@[simp] theorem xbs_10 : ((("NoRow", "ValueError", true) : Str × String × Bool) ∈ xbs) = True := eq_true (by decide +kernel)
@[simp] theorem xbs_11 : ((("NoText", "ValueError", true) : Str × String × Bool) ∈ xbs) = True := eq_true (by decide +kernel)
@[simp] theorem xbs_12 : ((("Nothing", "ValueError", true) : Str × String × Bool) ∈ xbs) = True := eq_true (by decide +kernel)
@[simp] theorem xbs_13 : ((("Stopped", "ValueError", true) : Str × String × Bool) ∈ xbs) = True := eq_true (by decide +kernel)
@[simp] theorem xbs_14 : ((("TooMany", "ValueError", true) : Str × String × Bool) ∈ xbs) = True := eq_true (by decide +kernel)
@[simp] theorem xbs_15 : ((("Twice", "ValueError", true) : Str × String × Bool) ∈ xbs) = True := eq_true (by decide +kernel)
@[simp] theorem xbs_16 : ((("Unfit", "ValueError", true) : Str × String × Bool) ∈ xbs) = True := eq_true (by decide +kernel)
noncomputable def b__law_flags (call : Str → List M → CR) : FS :=
  (sSeq (sSet 1 (mLst (aCons (eM (mIsXo isaT xcs "NoText" (eN 0))) (aCons (eM (mIsXo isaT xcs "Nothing" (eN 0))) (aCons (eM (mIsXo isaT xcs "NoRow" (eN 0))) (aCons (eM (mIsXo isaT xcs "BadDef" (eN 0))) aNil))))))
  (sSeq (sSet 1 (mBin addD (eN 1) (eM (mLst (aCons (eM (mIsXo isaT xcs "BadRun" (eN 0))) (aCons (eM (mIsXo isaT xcs "BadItem" (eN 0))) (aCons (eM (mIsXo isaT xcs "NoChoice" (eN 0))) (aCons (eM (mIsXo isaT xcs "Stopped" (eN 0))) aNil))))))))
  (sSeq (sSet 1 (mBin addD (eN 1) (eM (mLst (aCons (eM (mIsXo isaT xcs "Twice" (eN 0))) (aCons (eM (mIsXo isaT xcs "NoDef" (eN 0))) (aCons (eM (mIsXo isaT xcs "Loose" (eN 0))) (aCons (eM (mIsXo isaT xcs "Astray" (eN 0))) aNil))))))))
  (sSeq (sSet 1 (mBin addD (eN 1) (eM (mLst (aCons (eM (mIsXo isaT xcs "Unfit" (eN 0))) (aCons (eM (mIsXo isaT xcs "NoPath" (eN 0))) (aCons (eM (mIsXo isaT xcs "TooMany" (eN 0))) (aCons (eM (mIsXo isaT xcs "Large" (eN 0))) aNil))))))))
  (sRetV 1)))))
noncomputable def g__law_flags (call : Str → List M → CR) : List M → CR := runFn 1 2 (kpl [true]) (b__law_flags call)
noncomputable def b__law_thing (call : Str → List M → CR) : FS :=
  (sSeq (sSet 1 (mLst (aCons (eC (.int 0)) (aCons (eC (.int 7)) (aCons (eM (mBin powD (eC (.int 10)) (eC (.int 30)))) (aCons (eM (mNeg (eC (.int 1)))) (aCons (eC (.str "")) (aCons (eC (.str "a")) (aCons (eC (.str "some words")) (aCons (eM (mTup (aCons (eC (.int 1)) (aCons (eC (.int 2)) aNil)))) (aCons (eM (mTup (aCons (eC (.str "f")) (aCons (eC (.int 3)) (aCons (eC (.int 1)) aNil))))) (aCons (eM (mLst aNil)) (aCons (eM (mLst (aCons (eC (.int 1)) (aCons (eC (.str "a")) aNil)))) (aCons (eC .non) (aCons (eC (.bl true)) aNil)))))))))))))))
  (sRet (mBin ixD (eN 1) (eM (mCall (call "_law_take") (aCons (eN 0) (aCons (eC (.int 13)) aNil)))))))
noncomputable def g__law_thing (call : Str → List M → CR) : List M → CR := runFn 1 2 (kpl [true]) (b__law_thing call)
noncomputable def b__law_made (call : Str → List M → CR) : FS :=
  (sSeq (sSet 2 (mLst (aCons (eM (mMkT "NoText")) (aCons (eM (mMkT "Nothing")) (aCons (eM (mMkT "NoRow")) (aCons (eM (mMkX "BadDef" ["at"] (aCons (eN 0) aNil))) (aCons (eM (mMkX "BadRun" ["at"] (aCons (eN 0) aNil))) (aCons (eM (mMkX "BadItem" ["at"] (aCons (eN 0) aNil))) (aCons (eM (mMkX "NoChoice" ["at"] (aCons (eN 0) aNil))) aNil)))))))))
  (sSeq (sSet 2 (mBin addD (eN 2) (eM (mLst (aCons (eM (mMkX "Stopped" ["at"] (aCons (eN 0) aNil))) (aCons (eM (mMkX "Twice" ["name"] (aCons (eN 0) aNil))) (aCons (eM (mMkX "NoDef" ["name"] (aCons (eN 0) aNil))) (aCons (eM (mMkX "Loose" ["where", "word"] (aCons (eN 0) (aCons (eN 1) aNil)))) (aCons (eM (mMkX "Astray" ["where", "word"] (aCons (eN 0) (aCons (eN 1) aNil)))) (aCons (eM (mMkX "Unfit" ["where", "many"] (aCons (eN 0) (aCons (eN 1) aNil)))) aNil))))))))))
  (sRet (mBin addD (eN 2) (eM (mLst (aCons (eM (mMkX "NoPath" ["path"] (aCons (eN 0) aNil))) (aCons (eM (mMkX "TooMany" ["number"] (aCons (eN 0) aNil))) (aCons (eM (mMkX "Large" ["number"] (aCons (eN 0) aNil))) aNil)))))))))
noncomputable def g__law_made (call : Str → List M → CR) : List M → CR := runFn 2 3 (kpl [true, true]) (b__law_made call)
noncomputable def b__law_told (call : Str → List M → CR) : FS :=
  (sSeq (sSet 1 (mBin addD (eM (mLc [2] (iRng2 (eC (.int 3)) (eC (.int 8))) (gN 2) tTrue (eXo xcs xfs "at" (eM (mBin ixD (eN 0) (eN 2)))))) (eM (mLst (aCons (eXo xcs xfs "name" (eM (mBin ixD (eN 0) (eC (.int 8))))) (aCons (eXo xcs xfs "name" (eM (mBin ixD (eN 0) (eC (.int 9))))) aNil))))))
  (sSeq (sFor (iSeq (eM (mTup (aCons (eC (.int 10)) (aCons (eC (.int 11)) aNil))))) (gN 2)
    (sSet 1 (mBin addD (eN 1) (eM (mLst (aCons (eXo xcs xfs "where" (eM (mBin ixD (eN 0) (eN 2)))) (aCons (eXo xcs xfs "word" (eM (mBin ixD (eN 0) (eN 2)))) aNil)))))))
  (sRet (mBin addD (eN 1) (eM (mLst (aCons (eXo xcs xfs "where" (eM (mBin ixD (eN 0) (eC (.int 12))))) (aCons (eXo xcs xfs "many" (eM (mBin ixD (eN 0) (eC (.int 12))))) (aCons (eXo xcs xfs "path" (eM (mBin ixD (eN 0) (eC (.int 13))))) (aCons (eXo xcs xfs "number" (eM (mBin ixD (eN 0) (eC (.int 14))))) (aCons (eXo xcs xfs "number" (eM (mBin ixD (eN 0) (eC (.int 15))))) aNil)))))))))))
noncomputable def g__law_told (call : Str → List M → CR) : List M → CR := runFn 1 3 (kpl [true]) (b__law_told call)
noncomputable def b_law (call : Str → List M → CR) : FS :=
  (sSeq (sSet 1 (mCall (call "_law_bag") (aCons (eN 0) aNil)))
  (sSeq (sSet 2 (mLc [5] (iRng1 (eC (.int 2))) (gN 5) tTrue (eM (mTup (aCons (eM (mCall (call "_law_thing") (aCons (eN 1) aNil))) (aCons (eM (mCall (call "_law_thing") (aCons (eN 1) aNil))) aNil))))))
  (sSeq (sSet 3 (mLc [7, 8] (iSeq (eN 2)) (gT 2 (gsCons (gN 7) (gsCons (gN 8) gsNil))) tTrue (eM (mCall (call "_law_made") (aCons (eN 7) (aCons (eN 8) aNil))))))
  (sSeq (sFor (iSeq (eN 3)) (gN 4)
    (sFor (iRng1 (eC (.int 16))) (gN 5)
    (sSeq (sIf (tOr' (tNot' (tM (mIsXo isaT xcs "MeltError" (eM (mBin ixD (eN 4) (eN 5)))))) (tNot' (tM (mIsXb xbs xcs "ValueError" (eM (mBin ixD (eN 4) (eN 5)))))))
    (sRet (mE (eC (.bl false))))
    sNil)
  (sIf (tM (mBin neD (eM (mCall (call "_law_flags") (aCons (eM (mBin ixD (eN 4) (eN 5))) aNil))) (eM (mLc [9] (iRng1 (eC (.int 16))) (gN 9) tTrue (eM (mBin eqD (eN 9) (eN 5)))))))
    (sRet (mE (eC (.bl false))))
    sNil))))
  (sSeq (sIf (tOr' (tM (mBin inD (eC (.bl true)) (eM (mCall (call "_law_flags") (aCons (eM (mMkT "MeltError")) aNil))))) (tNot' (tM (mIsXb xbs xcs "ValueError" (eM (mMkT "MeltError"))))))
    (sRet (mE (eC (.bl false))))
    sNil)
  (sSeq (sFor (iSeq (eM (mTup (aCons (eC (.int 0)) (aCons (eC (.int 1)) (aCons (eC (.int 0)) aNil)))))) (gN 5)
    (sSeq (sAsg (eM (mBin ixD (eN 2) (eN 5))) (gT 2 (gsCons (gN 7) (gsCons (gN 8) gsNil))))
  (sSeq (sSet 6 (mBin addD (eM (mBin addD (eM (mBin mulD (eM (mLst (aCons (eN 7) aNil))) (eC (.int 7)))) (eM (mBin mulD (eM (mLst (aCons (eN 7) (aCons (eN 8) aNil)))) (eC (.int 3)))))) (eM (mBin mulD (eM (mLst (aCons (eN 7) aNil))) (eC (.int 3))))))
  (sIf (tM (mBin neD (eM (mBlt (on1 reprG) (aCons (eM (mCall (call "_law_told") (aCons (eM (mBin ixD (eN 3) (eN 5))) aNil))) aNil))) (eM (mBlt (on1 reprG) (aCons (eN 6) aNil)))))
    (sRet (mE (eC (.bl false))))
    sNil))))
  (sRet (mE (eC (.bl true))))))))))
noncomputable def g_law (call : Str → List M → CR) : List M → CR := runFn 1 10 (kpl [true]) (b_law call)
noncomputable def tbl (call : Str → List M → CR) (f : Str) : List M → CR :=
  if f = "_law_bag" then g__law_bag call else if f = "_law_take" then g__law_take call else if f = "_law_flags" then g__law_flags call else if f = "_law_thing" then g__law_thing call else if f = "_law_made" then g__law_made call else if f = "_law_told" then g__law_told call else if f = "law" then g_law call else fun _ => .no
noncomputable def den : Nat → Str → List M → CR
  | 0, _ => fun _ => .no
  | n + 1, f => tbl (den n) f
theorem den__law_bag (n : Nat) : den (n + 1) "_law_bag" = g__law_bag (den n) := by (first | rfl | simp [den, tbl])
theorem den__law_take (n : Nat) : den (n + 1) "_law_take" = g__law_take (den n) := by (first | rfl | simp [den, tbl])
theorem den__law_flags (n : Nat) : den (n + 1) "_law_flags" = g__law_flags (den n) := by (first | rfl | simp [den, tbl])
theorem den__law_thing (n : Nat) : den (n + 1) "_law_thing" = g__law_thing (den n) := by (first | rfl | simp [den, tbl])
theorem den__law_made (n : Nat) : den (n + 1) "_law_made" = g__law_made (den n) := by (first | rfl | simp [den, tbl])
theorem den__law_told (n : Nat) : den (n + 1) "_law_told" = g__law_told (den n) := by (first | rfl | simp [den, tbl])
theorem den_law (n : Nat) : den (n + 1) "law" = g_law (den n) := by (first | rfl | simp [den, tbl])
@[simp] theorem sn_0_0 : ¬("":Str)="a" ∧ ¬("":Str)="f" ∧ ¬("":Str)="no" ∧ ¬("":Str)="some words" := by decide +kernel
@[simp] theorem sb_0_0 : (("":Str)=="a")=false ∧ (("":Str)=="f")=false ∧ (("":Str)=="no")=false ∧ (("":Str)=="some words")=false := by decide +kernel
@[simp] theorem sn_1_0 : ¬("a":Str)="" ∧ ¬("a":Str)="f" ∧ ¬("a":Str)="no" ∧ ¬("a":Str)="some words" := by decide +kernel
@[simp] theorem sb_1_0 : (("a":Str)=="")=false ∧ (("a":Str)=="f")=false ∧ (("a":Str)=="no")=false ∧ (("a":Str)=="some words")=false := by decide +kernel
@[simp] theorem sn_2_0 : ¬("f":Str)="" ∧ ¬("f":Str)="a" ∧ ¬("f":Str)="no" ∧ ¬("f":Str)="some words" := by decide +kernel
@[simp] theorem sb_2_0 : (("f":Str)=="")=false ∧ (("f":Str)=="a")=false ∧ (("f":Str)=="no")=false ∧ (("f":Str)=="some words")=false := by decide +kernel
@[simp] theorem sn_3_0 : ¬("no":Str)="" ∧ ¬("no":Str)="a" ∧ ¬("no":Str)="f" ∧ ¬("no":Str)="some words" := by decide +kernel
@[simp] theorem sb_3_0 : (("no":Str)=="")=false ∧ (("no":Str)=="a")=false ∧ (("no":Str)=="f")=false ∧ (("no":Str)=="some words")=false := by decide +kernel
@[simp] theorem sn_4_0 : ¬("some words":Str)="" ∧ ¬("some words":Str)="a" ∧ ¬("some words":Str)="f" ∧ ¬("some words":Str)="no" := by decide +kernel
@[simp] theorem sb_4_0 : (("some words":Str)=="")=false ∧ (("some words":Str)=="a")=false ∧ (("some words":Str)=="f")=false ∧ (("some words":Str)=="no")=false := by decide +kernel
noncomputable def topS (i : Nat) : Stmt := PySem.Challenge.pw_callmelt_k18_refusals_apart.main.body.getD i (.Pass ⟨0, 0, 0, 0⟩)
noncomputable abbrev s__law_bag : Stmt := topS 19
theorem sc__law_bag : FnScope ["_law_script", "_law_cell"] ["_law_script"] (defScope s__law_bag) := ⟨rfl, rfl, rfl, by decide +kernel, rfl, by decide +kernel, by decide +kernel⟩
noncomputable abbrev s__law_take : Stmt := topS 20
theorem sc__law_take : FnScope ["_law_bag_here", "_law_many", "_law_first", "_law_second", "_law_cell", "_law_value"] ["_law_bag_here", "_law_many"] (defScope s__law_take) := ⟨rfl, rfl, rfl, by decide +kernel, rfl, by decide +kernel, by decide +kernel⟩
noncomputable abbrev s__law_flags : Stmt := topS 21
theorem sc__law_flags : FnScope ["_law_e", "_law_some"] ["_law_e"] (defScope s__law_flags) := ⟨rfl, rfl, rfl, by decide +kernel, rfl, by decide +kernel, by decide +kernel⟩
noncomputable abbrev s__law_thing : Stmt := topS 22
theorem sc__law_thing : FnScope ["_law_bag_here", "_law_some"] ["_law_bag_here"] (defScope s__law_thing) := ⟨rfl, rfl, rfl, by decide +kernel, rfl, by decide +kernel, by decide +kernel⟩
noncomputable abbrev s__law_made : Stmt := topS 23
theorem sc__law_made : FnScope ["_law_one", "_law_other", "_law_made_here"] ["_law_one", "_law_other"] (defScope s__law_made) := ⟨rfl, rfl, rfl, by decide +kernel, rfl, by decide +kernel, by decide +kernel⟩
noncomputable abbrev s__law_told : Stmt := topS 24
theorem sc__law_told : FnScope ["_law_made_here", "_law_found", "_law_k"] ["_law_made_here"] (defScope s__law_told) := ⟨rfl, rfl, rfl, by decide +kernel, rfl, by decide +kernel, by decide +kernel⟩
noncomputable abbrev s_law : Stmt := topS 25
theorem sc_law : FnScope ["_law_script", "_law_bag_here", "_law_pairs", "_law_rows", "_law_made_here", "_law_k", "_law_due", "_law_one", "_law_other", "_law_j"] ["_law_script"] (defScope s_law) := ⟨rfl, rfl, rfl, by decide +kernel, rfl, by decide +kernel, by decide +kernel⟩
structure Gs (w : World) (K : PySem.W.Frag) (mg : Str → Option Value) : Prop where
  n_ValueError : mg "ValueError" = none
  n_abs : mg "abs" = none
  n_isinstance : mg "isinstance" = none
  n_len : mg "len" = none
  n_range : mg "range" = none
  n_repr : mg "repr" = none
  x_isa : IsaG K mg isaT
  x_xc : XcG K mg xcs
  x_fl : FlG K mg xfs
  x_xb : IsbG K mg xbs
  k_Astray : ClsG mg ["Astray"]
  k_BadDef : ClsG mg ["BadDef"]
  k_BadItem : ClsG mg ["BadItem"]
  k_BadRun : ClsG mg ["BadRun"]
  k_Large : ClsG mg ["Large"]
  k_Loose : ClsG mg ["Loose"]
  k_MeltError : ClsG mg ["MeltError"]
  k_NoChoice : ClsG mg ["NoChoice"]
  k_NoDef : ClsG mg ["NoDef"]
  k_NoPath : ClsG mg ["NoPath"]
  k_NoRow : ClsG mg ["NoRow"]
  k_NoText : ClsG mg ["NoText"]
  k_Nothing : ClsG mg ["Nothing"]
  k_Stopped : ClsG mg ["Stopped"]
  k_TooMany : ClsG mg ["TooMany"]
  k_Twice : ClsG mg ["Twice"]
  k_Unfit : ClsG mg ["Unfit"]
  x_t_MeltError : ExcT K mg "MeltError"
  x_t_NoRow : ExcT K mg "NoRow"
  x_t_NoText : ExcT K mg "NoText"
  x_t_Nothing : ExcT K mg "Nothing"
  b_MeltError : BaseI K mg "MeltError"
structure Cs (P : Program) (w : World) (K : PySem.W.Frag) (mg : Str → Option Value) (base : Heap) (n : Nat) (call : Str → List M → CR) : Prop where
  c__law_bag : FnD P w K mg base n "_law_bag" 1 (call "_law_bag")
  c__law_take : FnD P w K mg base n "_law_take" 2 (call "_law_take")
  c__law_flags : FnD P w K mg base n "_law_flags" 1 (call "_law_flags")
  c__law_thing : FnD P w K mg base n "_law_thing" 1 (call "_law_thing")
  c__law_made : FnD P w K mg base n "_law_made" 2 (call "_law_made")
  c__law_told : FnD P w K mg base n "_law_told" 1 (call "_law_told")
  c_law : FnD P w K mg base n "law" 1 (call "law")
  e_Astray : ExcI P w K mg base "Astray" ["where", "word"]
  e_BadDef : ExcI P w K mg base "BadDef" ["at"]
  e_BadItem : ExcI P w K mg base "BadItem" ["at"]
  e_BadRun : ExcI P w K mg base "BadRun" ["at"]
  e_Large : ExcI P w K mg base "Large" ["number"]
  e_Loose : ExcI P w K mg base "Loose" ["where", "word"]
  e_NoChoice : ExcI P w K mg base "NoChoice" ["at"]
  e_NoDef : ExcI P w K mg base "NoDef" ["name"]
  e_NoPath : ExcI P w K mg base "NoPath" ["path"]
  e_Stopped : ExcI P w K mg base "Stopped" ["at"]
  e_TooMany : ExcI P w K mg base "TooMany" ["number"]
  e_Twice : ExcI P w K mg base "Twice" ["name"]
  e_Unfit : ExcI P w K mg base "Unfit" ["where", "many"]
section
variable {P : Program} {w : World} {K : PySem.W.Frag} {mg : Str → Option Value} {base : Heap} {f : Addr} {fd : FuncData} {n : Nat} {call : Str → List M → CR}
theorem ok__law_bag (F : Fun K "_law_bag" "_law_bag" s__law_bag f fd) (G : Gs w K mg) (C : Cs P w K mg base (n + 2) call) : FnG P w K mg base (n + 3) f fd ["_law_script"] (spD (kg0 K mg) 1 (g__law_bag call)) :=
  have SC := sc__law_bag
  fn_ok ["_law_script", "_law_cell"] ["_law_script"] 1 2 (kpl [true]) (b__law_bag call) (g__law_bag call) rfl rfl rfl F SC fun cdv A outer s H E hr =>
  (dss_one (ds_ret (dm_lst (da_cons de_int (da_cons de_int (da_cons de_int (da_cons (de_m (dm_lc (own := [("_law_cell", 1)]) rfl SC.nd (di_any (di_seq (de_m (dm_sl (de_n (pv 0)) dp_no (dp_ix de_int))))) (blkOk_by (own := [("_law_cell", 1)]) (N := ["_law_script", "_law_cell"]) (sc := defScope s__law_bag) (by decide +kernel)) (fun _ _ _ _ _ => (dg_n rfl (pg_name (i := 1) SC.nd rfl (by first | exact .inl rfl | exact .inr rfl)))) (fun _ _ _ _ _ => dts_nil) (fun _ _ _ _ _ => (de_m (dm_blt cd_abs (by rfl) G.n_abs (by decide +kernel) (da_cons (de_n (pv 1)) da_nil)))))) da_nil)))))))
theorem ok__law_take (F : Fun K "_law_take" "_law_take" s__law_take f fd) (G : Gs w K mg) (C : Cs P w K mg base (n + 2) call) : FnG P w K mg base (n + 3) f fd ["_law_bag_here", "_law_many"] (spD (kg0 K mg) 2 (g__law_take call)) :=
  have SC := sc__law_take
  fn_ok ["_law_bag_here", "_law_many", "_law_first", "_law_second", "_law_cell", "_law_value"] ["_law_bag_here", "_law_many"] 2 6 (kpl [true, true]) (b__law_take call) (g__law_take call) rfl rfl rfl F SC fun cdv A outer s H E hr =>
  (dss_cons (ds_if (dt_cmp (od_eq (Ev.hu192 hr)) (de_m (dm_ix (de_n (pv 0)) de_int)) de_int (nomark _))
    (dss_cons (ds_set (i := 4) SC.nd rfl (by first | exact .inl rfl | exact .inr rfl) rfl (dm_e de_int))
  (dss_cons (ds_if (dt_cmp od_lt (de_m (dm_ix (de_n (pv 0)) de_int)) (de_m (dm_blt cd_len (by rfl) G.n_len (by decide +kernel) (da_cons (de_m (dm_ix (de_n (pv 0)) de_int)) da_nil))) (nomark _))
    (dss_one (ds_set (i := 4) SC.nd rfl (by first | exact .inl rfl | exact .inr rfl) rfl (dm_ix (de_m (dm_ix (de_n (pv 0)) de_int)) (de_m (dm_ix (de_n (pv 0)) de_int)))))
    dss_nil)
  (dss_cons (ds_augIx (pv 0) de_int de_int oi_add)
  (dss_cons (ds_if (dt_cmp od_ge (de_n (pv 4)) de_int (nomark _))
    (dss_one (ds_setIx (de_n (pv 4)) (pv 0) de_int))
    dss_nil)
  (dss_one (ds_setIx (de_m (dm_bin od_mod (de_m (dm_bin od_add (de_m (dm_bin od_add (de_m (dm_bin od_mul (de_m (dm_ix (de_n (pv 0)) de_int)) de_int)) (de_m (dm_bin od_mod (de_n (pv 4)) de_int)))) (de_m (dm_bin od_mul de_int (de_m (dm_ix (de_n (pv 0)) de_int)))))) de_int)) (pv 0) de_int))))))
    dss_nil)
  (dss_cons (ds_if (dt_cmp od_gt (de_m (dm_ix (de_n (pv 0)) de_int)) de_int (nomark _))
    (dss_cons (ds_set (i := 5) SC.nd rfl (by first | exact .inl rfl | exact .inr rfl) rfl (dm_bin od_mod (de_m (dm_ix (de_n (pv 0)) de_int)) (de_n (pv 1))))
  (dss_cons (ds_setIx (de_m (dm_bin od_fdiv (de_m (dm_ix (de_n (pv 0)) de_int)) (de_n (pv 1)))) (pv 0) de_int)
  (dss_one (ds_retV (pv 5)))))
    dss_nil)
  (dss_cons (ds_set (i := 2) SC.nd rfl (by first | exact .inl rfl | exact .inr rfl) rfl (dm_bin od_mod (de_m (dm_bin od_mul (de_m (dm_bin od_add (de_m (dm_ix (de_n (pv 0)) de_int)) de_int)) de_int)) de_int))
  (dss_cons (ds_set (i := 3) SC.nd rfl (by first | exact .inl rfl | exact .inr rfl) rfl (dm_bin od_mod (de_m (dm_bin od_mul (de_m (dm_bin od_mod (de_m (dm_bin od_mul (de_n (pv 2)) (de_n (pv 2)))) de_int)) de_int)) de_int))
  (dss_cons (ds_if (dt_cmp od_gt (de_n (pv 1)) de_int (nomark _))
    (dss_one (ds_ret (dm_bin od_mod (de_m (dm_bin od_add (de_m (dm_bin od_mul (de_n (pv 3)) de_int)) (de_n (pv 2)))) (de_n (pv 1)))))
    dss_nil)
  (dss_one (ds_ret (dm_bin od_mod (de_m (dm_bin od_fdiv (de_n (pv 3)) de_int)) (de_n (pv 1))))))))))
theorem ok__law_flags (F : Fun K "_law_flags" "_law_flags" s__law_flags f fd) (G : Gs w K mg) (C : Cs P w K mg base (n + 2) call) : FnG P w K mg base (n + 3) f fd ["_law_e"] (spD (kg0 K mg) 1 (g__law_flags call)) :=
  have SC := sc__law_flags
  fn_ok ["_law_e", "_law_some"] ["_law_e"] 1 2 (kpl [true]) (b__law_flags call) (g__law_flags call) rfl rfl rfl F SC fun cdv A outer s H E hr =>
  (dss_cons (ds_set (i := 1) SC.nd rfl (by first | exact .inl rfl | exact .inr rfl) rfl (dm_lst (da_cons (de_m (dm_isXo G.x_xc G.x_isa (by rfl) G.n_isinstance (de_n (pv 0)) (by rfl) G.k_NoText)) (da_cons (de_m (dm_isXo G.x_xc G.x_isa (by rfl) G.n_isinstance (de_n (pv 0)) (by rfl) G.k_Nothing)) (da_cons (de_m (dm_isXo G.x_xc G.x_isa (by rfl) G.n_isinstance (de_n (pv 0)) (by rfl) G.k_NoRow)) (da_cons (de_m (dm_isXo G.x_xc G.x_isa (by rfl) G.n_isinstance (de_n (pv 0)) (by rfl) G.k_BadDef)) da_nil))))))
  (dss_cons (ds_set (i := 1) SC.nd rfl (by first | exact .inl rfl | exact .inr rfl) rfl (dm_bin od_add (de_n (pv 1)) (de_m (dm_lst (da_cons (de_m (dm_isXo G.x_xc G.x_isa (by rfl) G.n_isinstance (de_n (pv 0)) (by rfl) G.k_BadRun)) (da_cons (de_m (dm_isXo G.x_xc G.x_isa (by rfl) G.n_isinstance (de_n (pv 0)) (by rfl) G.k_BadItem)) (da_cons (de_m (dm_isXo G.x_xc G.x_isa (by rfl) G.n_isinstance (de_n (pv 0)) (by rfl) G.k_NoChoice)) (da_cons (de_m (dm_isXo G.x_xc G.x_isa (by rfl) G.n_isinstance (de_n (pv 0)) (by rfl) G.k_Stopped)) da_nil))))))))
  (dss_cons (ds_set (i := 1) SC.nd rfl (by first | exact .inl rfl | exact .inr rfl) rfl (dm_bin od_add (de_n (pv 1)) (de_m (dm_lst (da_cons (de_m (dm_isXo G.x_xc G.x_isa (by rfl) G.n_isinstance (de_n (pv 0)) (by rfl) G.k_Twice)) (da_cons (de_m (dm_isXo G.x_xc G.x_isa (by rfl) G.n_isinstance (de_n (pv 0)) (by rfl) G.k_NoDef)) (da_cons (de_m (dm_isXo G.x_xc G.x_isa (by rfl) G.n_isinstance (de_n (pv 0)) (by rfl) G.k_Loose)) (da_cons (de_m (dm_isXo G.x_xc G.x_isa (by rfl) G.n_isinstance (de_n (pv 0)) (by rfl) G.k_Astray)) da_nil))))))))
  (dss_cons (ds_set (i := 1) SC.nd rfl (by first | exact .inl rfl | exact .inr rfl) rfl (dm_bin od_add (de_n (pv 1)) (de_m (dm_lst (da_cons (de_m (dm_isXo G.x_xc G.x_isa (by rfl) G.n_isinstance (de_n (pv 0)) (by rfl) G.k_Unfit)) (da_cons (de_m (dm_isXo G.x_xc G.x_isa (by rfl) G.n_isinstance (de_n (pv 0)) (by rfl) G.k_NoPath)) (da_cons (de_m (dm_isXo G.x_xc G.x_isa (by rfl) G.n_isinstance (de_n (pv 0)) (by rfl) G.k_TooMany)) (da_cons (de_m (dm_isXo G.x_xc G.x_isa (by rfl) G.n_isinstance (de_n (pv 0)) (by rfl) G.k_Large)) da_nil))))))))
  (dss_one (ds_retV (pv 1)))))))
theorem ok__law_thing (F : Fun K "_law_thing" "_law_thing" s__law_thing f fd) (G : Gs w K mg) (C : Cs P w K mg base (n + 2) call) : FnG P w K mg base (n + 3) f fd ["_law_bag_here"] (spD (kg0 K mg) 1 (g__law_thing call)) :=
  have SC := sc__law_thing
  fn_ok ["_law_bag_here", "_law_some"] ["_law_bag_here"] 1 2 (kpl [true]) (b__law_thing call) (g__law_thing call) rfl rfl rfl F SC fun cdv A outer s H E hr =>
  (dss_cons (ds_set (i := 1) SC.nd rfl (by first | exact .inl rfl | exact .inr rfl) rfl (dm_lst (da_cons de_int (da_cons de_int (da_cons (de_m (dm_bin od_pow de_int de_int)) (da_cons (de_m (dm_neg de_int)) (da_cons de_str (da_cons de_str (da_cons de_str (da_cons (de_m (dm_tup (da_cons de_int (da_cons de_int da_nil)))) (da_cons (de_m (dm_tup (da_cons de_str (da_cons de_int (da_cons de_int da_nil))))) (da_cons (de_m (dm_lst da_nil)) (da_cons (de_m (dm_lst (da_cons de_int (da_cons de_str da_nil)))) (da_cons de_non (da_cons de_bl da_nil)))))))))))))))
  (dss_one (ds_ret (dm_ix (de_n (pv 1)) (de_m (dm_call C.c__law_take hr (by rfl) (da_cons (de_n (pv 0)) (da_cons de_int da_nil)) (many_cons (many_cons many_nil))))))))
theorem ok__law_made (F : Fun K "_law_made" "_law_made" s__law_made f fd) (G : Gs w K mg) (C : Cs P w K mg base (n + 2) call) : FnG P w K mg base (n + 3) f fd ["_law_one", "_law_other"] (spD (kg0 K mg) 2 (g__law_made call)) :=
  have SC := sc__law_made
  fn_ok ["_law_one", "_law_other", "_law_made_here"] ["_law_one", "_law_other"] 2 3 (kpl [true, true]) (b__law_made call) (g__law_made call) rfl rfl rfl F SC fun cdv A outer s H E hr =>
  (dss_cons (ds_set (i := 2) SC.nd rfl (by first | exact .inl rfl | exact .inr rfl) rfl (dm_lst (da_cons (de_m (dm_mkT G.x_t_NoText (by rfl))) (da_cons (de_m (dm_mkT G.x_t_Nothing (by rfl))) (da_cons (de_m (dm_mkT G.x_t_NoRow (by rfl))) (da_cons (de_m (dm_mkX C.e_BadDef hr (by rfl) (da_cons (de_n (pv 0)) da_nil))) (da_cons (de_m (dm_mkX C.e_BadRun hr (by rfl) (da_cons (de_n (pv 0)) da_nil))) (da_cons (de_m (dm_mkX C.e_BadItem hr (by rfl) (da_cons (de_n (pv 0)) da_nil))) (da_cons (de_m (dm_mkX C.e_NoChoice hr (by rfl) (da_cons (de_n (pv 0)) da_nil))) da_nil)))))))))
  (dss_cons (ds_set (i := 2) SC.nd rfl (by first | exact .inl rfl | exact .inr rfl) rfl (dm_bin od_add (de_n (pv 2)) (de_m (dm_lst (da_cons (de_m (dm_mkX C.e_Stopped hr (by rfl) (da_cons (de_n (pv 0)) da_nil))) (da_cons (de_m (dm_mkX C.e_Twice hr (by rfl) (da_cons (de_n (pv 0)) da_nil))) (da_cons (de_m (dm_mkX C.e_NoDef hr (by rfl) (da_cons (de_n (pv 0)) da_nil))) (da_cons (de_m (dm_mkX C.e_Loose hr (by rfl) (da_cons (de_n (pv 0)) (da_cons (de_n (pv 1)) da_nil)))) (da_cons (de_m (dm_mkX C.e_Astray hr (by rfl) (da_cons (de_n (pv 0)) (da_cons (de_n (pv 1)) da_nil)))) (da_cons (de_m (dm_mkX C.e_Unfit hr (by rfl) (da_cons (de_n (pv 0)) (da_cons (de_n (pv 1)) da_nil)))) da_nil))))))))))
  (dss_one (ds_ret (dm_bin od_add (de_n (pv 2)) (de_m (dm_lst (da_cons (de_m (dm_mkX C.e_NoPath hr (by rfl) (da_cons (de_n (pv 0)) da_nil))) (da_cons (de_m (dm_mkX C.e_TooMany hr (by rfl) (da_cons (de_n (pv 0)) da_nil))) (da_cons (de_m (dm_mkX C.e_Large hr (by rfl) (da_cons (de_n (pv 0)) da_nil))) da_nil))))))))))
theorem ok__law_told (F : Fun K "_law_told" "_law_told" s__law_told f fd) (G : Gs w K mg) (C : Cs P w K mg base (n + 2) call) : FnG P w K mg base (n + 3) f fd ["_law_made_here"] (spD (kg0 K mg) 1 (g__law_told call)) :=
  have SC := sc__law_told
  fn_ok ["_law_made_here", "_law_found", "_law_k"] ["_law_made_here"] 1 3 (kpl [true]) (b__law_told call) (g__law_told call) rfl rfl rfl F SC fun cdv A outer s H E hr =>
  (dss_cons (ds_set (i := 1) SC.nd rfl (by first | exact .inl rfl | exact .inr rfl) rfl (dm_bin od_add (de_m (dm_lc (own := [("_law_k", 2)]) rfl SC.nd (di_any (di_rng2 (by rfl) G.n_range de_int de_int)) (blkOk_by (own := [("_law_k", 2)]) (N := ["_law_made_here", "_law_found", "_law_k"]) (sc := defScope s__law_told) (by decide +kernel)) (fun _ _ _ _ _ => (dg_n rfl (pg_name (i := 2) SC.nd rfl (by first | exact .inl rfl | exact .inr rfl)))) (fun _ _ _ _ _ => dts_nil) (fun _ _ _ _ _ => (de_xo G.x_xc G.x_fl (de_m (dm_ix (de_n (pv 0)) (de_n (pv 2)))))))) (de_m (dm_lst (da_cons (de_xo G.x_xc G.x_fl (de_m (dm_ix (de_n (pv 0)) de_int))) (da_cons (de_xo G.x_xc G.x_fl (de_m (dm_ix (de_n (pv 0)) de_int))) da_nil))))))
  (dss_cons (ds_for PassesOwn.never rfl (di_any (di_seq (de_m (dm_tup (da_cons de_int (da_cons de_int da_nil)))))) (dg_n rfl (pg_name (i := 2) SC.nd rfl (by first | exact .inl rfl | exact .inr rfl)))
    (dss_one (ds_set (i := 1) SC.nd rfl (by first | exact .inl rfl | exact .inr rfl) rfl (dm_bin od_add (de_n (pv 1)) (de_m (dm_lst (da_cons (de_xo G.x_xc G.x_fl (de_m (dm_ix (de_n (pv 0)) (de_n (pv 2))))) (da_cons (de_xo G.x_xc G.x_fl (de_m (dm_ix (de_n (pv 0)) (de_n (pv 2))))) da_nil))))))))
  (dss_one (ds_ret (dm_bin od_add (de_n (pv 1)) (de_m (dm_lst (da_cons (de_xo G.x_xc G.x_fl (de_m (dm_ix (de_n (pv 0)) de_int))) (da_cons (de_xo G.x_xc G.x_fl (de_m (dm_ix (de_n (pv 0)) de_int))) (da_cons (de_xo G.x_xc G.x_fl (de_m (dm_ix (de_n (pv 0)) de_int))) (da_cons (de_xo G.x_xc G.x_fl (de_m (dm_ix (de_n (pv 0)) de_int))) (da_cons (de_xo G.x_xc G.x_fl (de_m (dm_ix (de_n (pv 0)) de_int))) da_nil))))))))))))
theorem ok_law (F : Fun K "law" "law" s_law f fd) (G : Gs w K mg) (C : Cs P w K mg base (n + 2) call) : FnG P w K mg base (n + 3) f fd ["_law_script"] (spD (kg0 K mg) 1 (g_law call)) :=
  have SC := sc_law
  fn_ok ["_law_script", "_law_bag_here", "_law_pairs", "_law_rows", "_law_made_here", "_law_k", "_law_due", "_law_one", "_law_other", "_law_j"] ["_law_script"] 1 10 (kpl [true]) (b_law call) (g_law call) rfl rfl rfl F SC fun cdv A outer s H E hr =>
  (dss_cons (ds_set (i := 1) SC.nd rfl (by first | exact .inl rfl | exact .inr rfl) rfl (dm_call C.c__law_bag hr (by rfl) (da_cons (de_n (pv 0)) da_nil) (many_cons many_nil)))
  (dss_cons (ds_setLc (i := 2) (own := [("_law_k", 5)]) rfl SC.nd rfl rfl rfl (sw_true rfl rfl rfl (by decide +kernel)) (di_any (di_rng1 (by rfl) G.n_range de_int)) (blkOk_by (own := [("_law_k", 5)]) (N := ["_law_script", "_law_bag_here", "_law_pairs", "_law_rows", "_law_made_here", "_law_k", "_law_due", "_law_one", "_law_other", "_law_j"]) (sc := defScope s_law) (by decide +kernel)) (fun _ _ _ _ _ => (dg_n rfl (pg_name (i := 5) SC.nd rfl (by first | exact .inl rfl | exact .inr rfl)))) (fun _ _ _ _ _ => dts_nil) (fun _ _ _ _ _ => (de_m (dm_tup (da_cons (de_m (dm_call C.c__law_thing hr (by rfl) (da_cons (de_n (pv 1)) da_nil) (many_cons many_nil))) (da_cons (de_m (dm_call C.c__law_thing hr (by rfl) (da_cons (de_n (pv 1)) da_nil) (many_cons many_nil))) da_nil))))))
  (dss_cons (ds_setLc (i := 3) (own := [("_law_one", 7), ("_law_other", 8)]) rfl SC.nd rfl rfl rfl (sw_true rfl rfl rfl (by decide +kernel)) (di_any (di_seq (de_n (pv 2)))) (blkOk_by (own := [("_law_one", 7), ("_law_other", 8)]) (N := ["_law_script", "_law_bag_here", "_law_pairs", "_law_rows", "_law_made_here", "_law_k", "_law_due", "_law_one", "_law_other", "_law_j"]) (sc := defScope s_law) (by decide +kernel)) (fun _ _ _ _ _ => (dg_t rfl (dgs_cons (dg_n rfl (pg_name (i := 7) SC.nd rfl (by first | exact .inl rfl | exact .inr rfl))) (dgs_cons (dg_n rfl (pg_name (i := 8) SC.nd rfl (by first | exact .inl rfl | exact .inr rfl))) dgs_nil)))) (fun _ _ _ _ _ => dts_nil) (fun _ _ _ _ _ => (de_m (dm_call C.c__law_made hr (by rfl) (da_cons (de_n (pv 7)) (da_cons (de_n (pv 8)) da_nil)) (many_cons (many_cons many_nil))))))
  (dss_cons (ds_for PassesOwn.never rfl (di_any (di_seq (de_n (pv 3)))) (dg_n rfl (pg_name (i := 4) SC.nd rfl (by first | exact .inl rfl | exact .inr rfl)))
    (dss_one (ds_for PassesOwn.never rfl (di_any (di_rng1 (by rfl) G.n_range de_int)) (dg_n rfl (pg_name (i := 5) SC.nd rfl (by first | exact .inl rfl | exact .inr rfl)))
    (dss_cons (ds_if (dt_w (dw_or (dt_not (dt_val (dm_isXo G.x_xc G.x_isa (by rfl) G.n_isinstance (de_m (dm_ix (de_n (pv 4)) (de_n (pv 5)))) (by rfl) G.k_MeltError))) (dw_or1 (dt_not (dt_val (dm_isXb G.x_xc G.x_xb (by rfl) G.n_isinstance (de_m (dm_ix (de_n (pv 4)) (de_n (pv 5)))) (pe_bltn (by rfl) G.n_ValueError (by decide +kernel) (show RelV (.ty "ValueError") _ from rfl))))))))
    (dss_one (ds_ret (dm_e de_bl)))
    dss_nil)
  (dss_one (ds_if (dt_cmp (od_ne (Ev.hu192 hr)) (de_m (dm_call C.c__law_flags hr (by rfl) (da_cons (de_m (dm_ix (de_n (pv 4)) (de_n (pv 5)))) da_nil) (many_cons many_nil))) (de_m (dm_lc (own := [("_law_j", 9)]) rfl SC.nd (di_any (di_rng1 (by rfl) G.n_range de_int)) (blkOk_by (own := [("_law_j", 9)]) (N := ["_law_script", "_law_bag_here", "_law_pairs", "_law_rows", "_law_made_here", "_law_k", "_law_due", "_law_one", "_law_other", "_law_j"]) (sc := defScope s_law) (by decide +kernel)) (fun _ _ _ _ _ => (dg_n rfl (pg_name (i := 9) SC.nd rfl (by first | exact .inl rfl | exact .inr rfl)))) (fun _ _ _ _ _ => dts_nil) (fun _ _ _ _ _ => (de_m (dm_cmp (od_eq (Ev.hu192 hr)) (de_n (pv 9)) (de_n (pv 5)) (nomark _)))))) (nomark _))
    (dss_one (ds_ret (dm_e de_bl)))
    dss_nil))))))
  (dss_cons (ds_if (dt_w (dw_or (dt_cmp (od_in (Ev.hu192 hr)) de_bl (de_m (dm_call C.c__law_flags hr (by rfl) (da_cons (de_m (dm_mkT G.x_t_MeltError (by rfl))) da_nil) (many_cons many_nil))) (by with_unfolding_all rfl)) (dw_or1 (dt_not (dt_val (dm_isXb G.x_xc G.x_xb (by rfl) G.n_isinstance (de_m (dm_mkT G.x_t_MeltError (by rfl))) (pe_bltn (by rfl) G.n_ValueError (by decide +kernel) (show RelV (.ty "ValueError") _ from rfl))))))))
    (dss_one (ds_ret (dm_e de_bl)))
    dss_nil)
  (dss_cons (ds_for PassesOwn.never rfl (di_any (di_seq (de_m (dm_tup (da_cons de_int (da_cons de_int (da_cons de_int da_nil))))))) (dg_n rfl (pg_name (i := 5) SC.nd rfl (by first | exact .inl rfl | exact .inr rfl)))
    (dss_cons (ds_asg (de_m (dm_ix (de_n (pv 2)) (de_n (pv 5)))) (dg_t rfl (dgs_cons (dg_n rfl (pg_name (i := 7) SC.nd rfl (by first | exact .inl rfl | exact .inr rfl))) (dgs_cons (dg_n rfl (pg_name (i := 8) SC.nd rfl (by first | exact .inl rfl | exact .inr rfl))) dgs_nil))))
  (dss_cons (ds_set (i := 6) SC.nd rfl (by first | exact .inl rfl | exact .inr rfl) rfl (dm_bin od_add (de_m (dm_bin od_add (de_m (dm_bin od_mul (de_m (dm_lst (da_cons (de_n (pv 7)) da_nil))) de_int)) (de_m (dm_bin od_mul (de_m (dm_lst (da_cons (de_n (pv 7)) (da_cons (de_n (pv 8)) da_nil)))) de_int)))) (de_m (dm_bin od_mul (de_m (dm_lst (da_cons (de_n (pv 7)) da_nil))) de_int))))
  (dss_one (ds_if (dt_cmp (od_ne (Ev.hu192 hr)) (de_m (dm_blt (cd_reprG hr) (by rfl) G.n_repr (by decide +kernel) (da_cons (de_m (dm_call C.c__law_told hr (by rfl) (da_cons (de_m (dm_ix (de_n (pv 3)) (de_n (pv 5)))) da_nil) (many_cons many_nil))) da_nil))) (de_m (dm_blt (cd_reprG hr) (by rfl) G.n_repr (by decide +kernel) (da_cons (de_n (pv 6)) da_nil))) (nomark _))
    (dss_one (ds_ret (dm_e de_bl)))
    dss_nil)))))
  (dss_one (ds_ret (dm_e de_bl)))))))))
end
noncomputable abbrev s_Astray____init__ : Stmt := inClass (topS 13) 0
theorem sc_Astray____init__ : FnScope ["self", "where", "word"] ["self", "where", "word"] (defScope s_Astray____init__) := ⟨rfl, rfl, rfl, by decide +kernel, rfl, by decide +kernel, by decide +kernel⟩
theorem ei_Astray {P : Program} {w : World} {K : PySem.W.Frag} {mg : Str → Option Value} {base : Heap} {f : Addr} {fd : FuncData} (F : Fun K "__init__" "Astray.__init__" s_Astray____init__ f fd) (B : BaseI K mg "MeltError") (k : Nat) : FnOk P w K mg base CX0 (k + 1) f fd ["self", "where", "word"] (spI K ["where", "word"]) :=
  init2 F sc_Astray____init__ fun cdv A outer s H E => (pss_cons (ps_expr (pe_cinit rfl B (pa_cons (pv 0) (pa_cons pe_str pa_nil)))) (pss_cons (ps_ost (pv 0) (pv 1)) (pss_one (ps_ost (pv 0) (pv 2)))))
noncomputable abbrev s_BadDef____init__ : Stmt := inClass (topS 5) 0
theorem sc_BadDef____init__ : FnScope ["self", "at"] ["self", "at"] (defScope s_BadDef____init__) := ⟨rfl, rfl, rfl, by decide +kernel, rfl, by decide +kernel, by decide +kernel⟩
theorem ei_BadDef {P : Program} {w : World} {K : PySem.W.Frag} {mg : Str → Option Value} {base : Heap} {f : Addr} {fd : FuncData} (F : Fun K "__init__" "BadDef.__init__" s_BadDef____init__ f fd) (B : BaseI K mg "MeltError") (k : Nat) : FnOk P w K mg base CX0 (k + 1) f fd ["self", "at"] (spI K ["at"]) :=
  init1 F sc_BadDef____init__ fun cdv A outer s H E => (pss_cons (ps_expr (pe_cinit rfl B (pa_cons (pv 0) (pa_cons pe_str pa_nil)))) (pss_one (ps_ost (pv 0) (pv 1))))
noncomputable abbrev s_BadItem____init__ : Stmt := inClass (topS 7) 0
theorem sc_BadItem____init__ : FnScope ["self", "at"] ["self", "at"] (defScope s_BadItem____init__) := ⟨rfl, rfl, rfl, by decide +kernel, rfl, by decide +kernel, by decide +kernel⟩
theorem ei_BadItem {P : Program} {w : World} {K : PySem.W.Frag} {mg : Str → Option Value} {base : Heap} {f : Addr} {fd : FuncData} (F : Fun K "__init__" "BadItem.__init__" s_BadItem____init__ f fd) (B : BaseI K mg "MeltError") (k : Nat) : FnOk P w K mg base CX0 (k + 1) f fd ["self", "at"] (spI K ["at"]) :=
  init1 F sc_BadItem____init__ fun cdv A outer s H E => (pss_cons (ps_expr (pe_cinit rfl B (pa_cons (pv 0) (pa_cons pe_str pa_nil)))) (pss_one (ps_ost (pv 0) (pv 1))))
noncomputable abbrev s_BadRun____init__ : Stmt := inClass (topS 6) 0
theorem sc_BadRun____init__ : FnScope ["self", "at"] ["self", "at"] (defScope s_BadRun____init__) := ⟨rfl, rfl, rfl, by decide +kernel, rfl, by decide +kernel, by decide +kernel⟩
theorem ei_BadRun {P : Program} {w : World} {K : PySem.W.Frag} {mg : Str → Option Value} {base : Heap} {f : Addr} {fd : FuncData} (F : Fun K "__init__" "BadRun.__init__" s_BadRun____init__ f fd) (B : BaseI K mg "MeltError") (k : Nat) : FnOk P w K mg base CX0 (k + 1) f fd ["self", "at"] (spI K ["at"]) :=
  init1 F sc_BadRun____init__ fun cdv A outer s H E => (pss_cons (ps_expr (pe_cinit rfl B (pa_cons (pv 0) (pa_cons pe_str pa_nil)))) (pss_one (ps_ost (pv 0) (pv 1))))
noncomputable abbrev s_Large____init__ : Stmt := inClass (topS 17) 0
theorem sc_Large____init__ : FnScope ["self", "number"] ["self", "number"] (defScope s_Large____init__) := ⟨rfl, rfl, rfl, by decide +kernel, rfl, by decide +kernel, by decide +kernel⟩
theorem ei_Large {P : Program} {w : World} {K : PySem.W.Frag} {mg : Str → Option Value} {base : Heap} {f : Addr} {fd : FuncData} (F : Fun K "__init__" "Large.__init__" s_Large____init__ f fd) (B : BaseI K mg "MeltError") (k : Nat) : FnOk P w K mg base CX0 (k + 1) f fd ["self", "number"] (spI K ["number"]) :=
  init1 F sc_Large____init__ fun cdv A outer s H E => (pss_cons (ps_expr (pe_cinit rfl B (pa_cons (pv 0) (pa_cons pe_str pa_nil)))) (pss_one (ps_ost (pv 0) (pv 1))))
noncomputable abbrev s_Loose____init__ : Stmt := inClass (topS 12) 0
theorem sc_Loose____init__ : FnScope ["self", "where", "word"] ["self", "where", "word"] (defScope s_Loose____init__) := ⟨rfl, rfl, rfl, by decide +kernel, rfl, by decide +kernel, by decide +kernel⟩
theorem ei_Loose {P : Program} {w : World} {K : PySem.W.Frag} {mg : Str → Option Value} {base : Heap} {f : Addr} {fd : FuncData} (F : Fun K "__init__" "Loose.__init__" s_Loose____init__ f fd) (B : BaseI K mg "MeltError") (k : Nat) : FnOk P w K mg base CX0 (k + 1) f fd ["self", "where", "word"] (spI K ["where", "word"]) :=
  init2 F sc_Loose____init__ fun cdv A outer s H E => (pss_cons (ps_expr (pe_cinit rfl B (pa_cons (pv 0) (pa_cons pe_str pa_nil)))) (pss_cons (ps_ost (pv 0) (pv 1)) (pss_one (ps_ost (pv 0) (pv 2)))))
noncomputable abbrev s_NoChoice____init__ : Stmt := inClass (topS 8) 0
theorem sc_NoChoice____init__ : FnScope ["self", "at"] ["self", "at"] (defScope s_NoChoice____init__) := ⟨rfl, rfl, rfl, by decide +kernel, rfl, by decide +kernel, by decide +kernel⟩
theorem ei_NoChoice {P : Program} {w : World} {K : PySem.W.Frag} {mg : Str → Option Value} {base : Heap} {f : Addr} {fd : FuncData} (F : Fun K "__init__" "NoChoice.__init__" s_NoChoice____init__ f fd) (B : BaseI K mg "MeltError") (k : Nat) : FnOk P w K mg base CX0 (k + 1) f fd ["self", "at"] (spI K ["at"]) :=
  init1 F sc_NoChoice____init__ fun cdv A outer s H E => (pss_cons (ps_expr (pe_cinit rfl B (pa_cons (pv 0) (pa_cons pe_str pa_nil)))) (pss_one (ps_ost (pv 0) (pv 1))))
noncomputable abbrev s_NoDef____init__ : Stmt := inClass (topS 11) 0
theorem sc_NoDef____init__ : FnScope ["self", "name"] ["self", "name"] (defScope s_NoDef____init__) := ⟨rfl, rfl, rfl, by decide +kernel, rfl, by decide +kernel, by decide +kernel⟩
theorem ei_NoDef {P : Program} {w : World} {K : PySem.W.Frag} {mg : Str → Option Value} {base : Heap} {f : Addr} {fd : FuncData} (F : Fun K "__init__" "NoDef.__init__" s_NoDef____init__ f fd) (B : BaseI K mg "MeltError") (k : Nat) : FnOk P w K mg base CX0 (k + 1) f fd ["self", "name"] (spI K ["name"]) :=
  init1 F sc_NoDef____init__ fun cdv A outer s H E => (pss_cons (ps_expr (pe_cinit rfl B (pa_cons (pv 0) (pa_cons pe_str pa_nil)))) (pss_one (ps_ost (pv 0) (pv 1))))
noncomputable abbrev s_NoPath____init__ : Stmt := inClass (topS 15) 0
theorem sc_NoPath____init__ : FnScope ["self", "path"] ["self", "path"] (defScope s_NoPath____init__) := ⟨rfl, rfl, rfl, by decide +kernel, rfl, by decide +kernel, by decide +kernel⟩
theorem ei_NoPath {P : Program} {w : World} {K : PySem.W.Frag} {mg : Str → Option Value} {base : Heap} {f : Addr} {fd : FuncData} (F : Fun K "__init__" "NoPath.__init__" s_NoPath____init__ f fd) (B : BaseI K mg "MeltError") (k : Nat) : FnOk P w K mg base CX0 (k + 1) f fd ["self", "path"] (spI K ["path"]) :=
  init1 F sc_NoPath____init__ fun cdv A outer s H E => (pss_cons (ps_expr (pe_cinit rfl B (pa_cons (pv 0) (pa_cons pe_str pa_nil)))) (pss_one (ps_ost (pv 0) (pv 1))))
noncomputable abbrev s_Stopped____init__ : Stmt := inClass (topS 9) 0
theorem sc_Stopped____init__ : FnScope ["self", "at"] ["self", "at"] (defScope s_Stopped____init__) := ⟨rfl, rfl, rfl, by decide +kernel, rfl, by decide +kernel, by decide +kernel⟩
theorem ei_Stopped {P : Program} {w : World} {K : PySem.W.Frag} {mg : Str → Option Value} {base : Heap} {f : Addr} {fd : FuncData} (F : Fun K "__init__" "Stopped.__init__" s_Stopped____init__ f fd) (B : BaseI K mg "MeltError") (k : Nat) : FnOk P w K mg base CX0 (k + 1) f fd ["self", "at"] (spI K ["at"]) :=
  init1 F sc_Stopped____init__ fun cdv A outer s H E => (pss_cons (ps_expr (pe_cinit rfl B (pa_cons (pv 0) (pa_cons pe_str pa_nil)))) (pss_one (ps_ost (pv 0) (pv 1))))
noncomputable abbrev s_TooMany____init__ : Stmt := inClass (topS 16) 0
theorem sc_TooMany____init__ : FnScope ["self", "number"] ["self", "number"] (defScope s_TooMany____init__) := ⟨rfl, rfl, rfl, by decide +kernel, rfl, by decide +kernel, by decide +kernel⟩
theorem ei_TooMany {P : Program} {w : World} {K : PySem.W.Frag} {mg : Str → Option Value} {base : Heap} {f : Addr} {fd : FuncData} (F : Fun K "__init__" "TooMany.__init__" s_TooMany____init__ f fd) (B : BaseI K mg "MeltError") (k : Nat) : FnOk P w K mg base CX0 (k + 1) f fd ["self", "number"] (spI K ["number"]) :=
  init1 F sc_TooMany____init__ fun cdv A outer s H E => (pss_cons (ps_expr (pe_cinit rfl B (pa_cons (pv 0) (pa_cons pe_str pa_nil)))) (pss_one (ps_ost (pv 0) (pv 1))))
noncomputable abbrev s_Twice____init__ : Stmt := inClass (topS 10) 0
theorem sc_Twice____init__ : FnScope ["self", "name"] ["self", "name"] (defScope s_Twice____init__) := ⟨rfl, rfl, rfl, by decide +kernel, rfl, by decide +kernel, by decide +kernel⟩
theorem ei_Twice {P : Program} {w : World} {K : PySem.W.Frag} {mg : Str → Option Value} {base : Heap} {f : Addr} {fd : FuncData} (F : Fun K "__init__" "Twice.__init__" s_Twice____init__ f fd) (B : BaseI K mg "MeltError") (k : Nat) : FnOk P w K mg base CX0 (k + 1) f fd ["self", "name"] (spI K ["name"]) :=
  init1 F sc_Twice____init__ fun cdv A outer s H E => (pss_cons (ps_expr (pe_cinit rfl B (pa_cons (pv 0) (pa_cons pe_str pa_nil)))) (pss_one (ps_ost (pv 0) (pv 1))))
noncomputable abbrev s_Unfit____init__ : Stmt := inClass (topS 14) 0
theorem sc_Unfit____init__ : FnScope ["self", "where", "many"] ["self", "where", "many"] (defScope s_Unfit____init__) := ⟨rfl, rfl, rfl, by decide +kernel, rfl, by decide +kernel, by decide +kernel⟩
theorem ei_Unfit {P : Program} {w : World} {K : PySem.W.Frag} {mg : Str → Option Value} {base : Heap} {f : Addr} {fd : FuncData} (F : Fun K "__init__" "Unfit.__init__" s_Unfit____init__ f fd) (B : BaseI K mg "MeltError") (k : Nat) : FnOk P w K mg base CX0 (k + 1) f fd ["self", "where", "many"] (spI K ["where", "many"]) :=
  init2 F sc_Unfit____init__ fun cdv A outer s H E => (pss_cons (ps_expr (pe_cinit rfl B (pa_cons (pv 0) (pa_cons pe_str pa_nil)))) (pss_cons (ps_ost (pv 0) (pv 1)) (pss_one (ps_ost (pv 0) (pv 2)))))
structure Fs (w : World) (K : PySem.W.Frag) (mg : Str → Option Value) : Prop where
  G : Gs w K mg
  f__law_bag : ∃ f fd, Fun K "_law_bag" "_law_bag" s__law_bag f fd ∧ mg "_law_bag" = some (.ref f)
  f__law_take : ∃ f fd, Fun K "_law_take" "_law_take" s__law_take f fd ∧ mg "_law_take" = some (.ref f)
  f__law_flags : ∃ f fd, Fun K "_law_flags" "_law_flags" s__law_flags f fd ∧ mg "_law_flags" = some (.ref f)
  f__law_thing : ∃ f fd, Fun K "_law_thing" "_law_thing" s__law_thing f fd ∧ mg "_law_thing" = some (.ref f)
  f__law_made : ∃ f fd, Fun K "_law_made" "_law_made" s__law_made f fd ∧ mg "_law_made" = some (.ref f)
  f__law_told : ∃ f fd, Fun K "_law_told" "_law_told" s__law_told f fd ∧ mg "_law_told" = some (.ref f)
  f_law : ∃ f fd, Fun K "law" "law" s_law f fd ∧ mg "law" = some (.ref f)
  f_Astray____init__ : ∃ C f fd, Fun K "__init__" "Astray.__init__" s_Astray____init__ f fd ∧ mg "Astray" = some (.ref C) ∧ OexC K C ∧ PySem.W.findIn K (.ref C) "__init__" = some (some (.ref f)) ∧ PySem.W.typeIn K (.ref f) = some (.type "function") ∧ (∀ g ∈ (["where", "word"] : List Str), PySem.W.findIn K (.ref C) g = some none)
  f_BadDef____init__ : ∃ C f fd, Fun K "__init__" "BadDef.__init__" s_BadDef____init__ f fd ∧ mg "BadDef" = some (.ref C) ∧ OexC K C ∧ PySem.W.findIn K (.ref C) "__init__" = some (some (.ref f)) ∧ PySem.W.typeIn K (.ref f) = some (.type "function") ∧ (∀ g ∈ (["at"] : List Str), PySem.W.findIn K (.ref C) g = some none)
  f_BadItem____init__ : ∃ C f fd, Fun K "__init__" "BadItem.__init__" s_BadItem____init__ f fd ∧ mg "BadItem" = some (.ref C) ∧ OexC K C ∧ PySem.W.findIn K (.ref C) "__init__" = some (some (.ref f)) ∧ PySem.W.typeIn K (.ref f) = some (.type "function") ∧ (∀ g ∈ (["at"] : List Str), PySem.W.findIn K (.ref C) g = some none)
  f_BadRun____init__ : ∃ C f fd, Fun K "__init__" "BadRun.__init__" s_BadRun____init__ f fd ∧ mg "BadRun" = some (.ref C) ∧ OexC K C ∧ PySem.W.findIn K (.ref C) "__init__" = some (some (.ref f)) ∧ PySem.W.typeIn K (.ref f) = some (.type "function") ∧ (∀ g ∈ (["at"] : List Str), PySem.W.findIn K (.ref C) g = some none)
  f_Large____init__ : ∃ C f fd, Fun K "__init__" "Large.__init__" s_Large____init__ f fd ∧ mg "Large" = some (.ref C) ∧ OexC K C ∧ PySem.W.findIn K (.ref C) "__init__" = some (some (.ref f)) ∧ PySem.W.typeIn K (.ref f) = some (.type "function") ∧ (∀ g ∈ (["number"] : List Str), PySem.W.findIn K (.ref C) g = some none)
  f_Loose____init__ : ∃ C f fd, Fun K "__init__" "Loose.__init__" s_Loose____init__ f fd ∧ mg "Loose" = some (.ref C) ∧ OexC K C ∧ PySem.W.findIn K (.ref C) "__init__" = some (some (.ref f)) ∧ PySem.W.typeIn K (.ref f) = some (.type "function") ∧ (∀ g ∈ (["where", "word"] : List Str), PySem.W.findIn K (.ref C) g = some none)
  f_NoChoice____init__ : ∃ C f fd, Fun K "__init__" "NoChoice.__init__" s_NoChoice____init__ f fd ∧ mg "NoChoice" = some (.ref C) ∧ OexC K C ∧ PySem.W.findIn K (.ref C) "__init__" = some (some (.ref f)) ∧ PySem.W.typeIn K (.ref f) = some (.type "function") ∧ (∀ g ∈ (["at"] : List Str), PySem.W.findIn K (.ref C) g = some none)
  f_NoDef____init__ : ∃ C f fd, Fun K "__init__" "NoDef.__init__" s_NoDef____init__ f fd ∧ mg "NoDef" = some (.ref C) ∧ OexC K C ∧ PySem.W.findIn K (.ref C) "__init__" = some (some (.ref f)) ∧ PySem.W.typeIn K (.ref f) = some (.type "function") ∧ (∀ g ∈ (["name"] : List Str), PySem.W.findIn K (.ref C) g = some none)
  f_NoPath____init__ : ∃ C f fd, Fun K "__init__" "NoPath.__init__" s_NoPath____init__ f fd ∧ mg "NoPath" = some (.ref C) ∧ OexC K C ∧ PySem.W.findIn K (.ref C) "__init__" = some (some (.ref f)) ∧ PySem.W.typeIn K (.ref f) = some (.type "function") ∧ (∀ g ∈ (["path"] : List Str), PySem.W.findIn K (.ref C) g = some none)
  f_Stopped____init__ : ∃ C f fd, Fun K "__init__" "Stopped.__init__" s_Stopped____init__ f fd ∧ mg "Stopped" = some (.ref C) ∧ OexC K C ∧ PySem.W.findIn K (.ref C) "__init__" = some (some (.ref f)) ∧ PySem.W.typeIn K (.ref f) = some (.type "function") ∧ (∀ g ∈ (["at"] : List Str), PySem.W.findIn K (.ref C) g = some none)
  f_TooMany____init__ : ∃ C f fd, Fun K "__init__" "TooMany.__init__" s_TooMany____init__ f fd ∧ mg "TooMany" = some (.ref C) ∧ OexC K C ∧ PySem.W.findIn K (.ref C) "__init__" = some (some (.ref f)) ∧ PySem.W.typeIn K (.ref f) = some (.type "function") ∧ (∀ g ∈ (["number"] : List Str), PySem.W.findIn K (.ref C) g = some none)
  f_Twice____init__ : ∃ C f fd, Fun K "__init__" "Twice.__init__" s_Twice____init__ f fd ∧ mg "Twice" = some (.ref C) ∧ OexC K C ∧ PySem.W.findIn K (.ref C) "__init__" = some (some (.ref f)) ∧ PySem.W.typeIn K (.ref f) = some (.type "function") ∧ (∀ g ∈ (["name"] : List Str), PySem.W.findIn K (.ref C) g = some none)
  f_Unfit____init__ : ∃ C f fd, Fun K "__init__" "Unfit.__init__" s_Unfit____init__ f fd ∧ mg "Unfit" = some (.ref C) ∧ OexC K C ∧ PySem.W.findIn K (.ref C) "__init__" = some (some (.ref f)) ∧ PySem.W.typeIn K (.ref f) = some (.type "function") ∧ (∀ g ∈ (["where", "many"] : List Str), PySem.W.findIn K (.ref C) g = some none)
section
variable {P : Program} {w : World} {K : PySem.W.Frag} {mg : Str → Option Value} {base : Heap}
theorem bd__law_bag {f : Addr} {fd : FuncData} (F : Fun K "_law_bag" "_law_bag" s__law_bag f fd) : Binds K fd ["_law_script"] [] := F.binds (ps := ["_law_script"]) fun _ _ _ _ _ _ us hl => match us, hl with | [_], _ => rfl
theorem bd__law_take {f : Addr} {fd : FuncData} (F : Fun K "_law_take" "_law_take" s__law_take f fd) : Binds K fd ["_law_bag_here", "_law_many"] [] := F.binds (ps := ["_law_bag_here", "_law_many"]) fun _ _ _ _ _ _ us hl => match us, hl with | [_, _], _ => rfl
theorem bd__law_flags {f : Addr} {fd : FuncData} (F : Fun K "_law_flags" "_law_flags" s__law_flags f fd) : Binds K fd ["_law_e"] [] := F.binds (ps := ["_law_e"]) fun _ _ _ _ _ _ us hl => match us, hl with | [_], _ => rfl
theorem bd__law_thing {f : Addr} {fd : FuncData} (F : Fun K "_law_thing" "_law_thing" s__law_thing f fd) : Binds K fd ["_law_bag_here"] [] := F.binds (ps := ["_law_bag_here"]) fun _ _ _ _ _ _ us hl => match us, hl with | [_], _ => rfl
theorem bd__law_made {f : Addr} {fd : FuncData} (F : Fun K "_law_made" "_law_made" s__law_made f fd) : Binds K fd ["_law_one", "_law_other"] [] := F.binds (ps := ["_law_one", "_law_other"]) fun _ _ _ _ _ _ us hl => match us, hl with | [_, _], _ => rfl
theorem bd__law_told {f : Addr} {fd : FuncData} (F : Fun K "_law_told" "_law_told" s__law_told f fd) : Binds K fd ["_law_made_here"] [] := F.binds (ps := ["_law_made_here"]) fun _ _ _ _ _ _ us hl => match us, hl with | [_], _ => rfl
theorem bd_law {f : Addr} {fd : FuncData} (F : Fun K "law" "law" s_law f fd) : Binds K fd ["_law_script"] [] := F.binds (ps := ["_law_script"]) fun _ _ _ _ _ _ us hl => match us, hl with | [_], _ => rfl
theorem bd_Astray____init__ {f : Addr} {fd : FuncData} (F : Fun K "__init__" "Astray.__init__" s_Astray____init__ f fd) : Binds K fd ["self", "where", "word"] [] := F.binds (ps := ["self", "where", "word"]) fun _ _ _ _ _ _ us hl => match us, hl with | [_, _, _], _ => rfl
theorem bd_BadDef____init__ {f : Addr} {fd : FuncData} (F : Fun K "__init__" "BadDef.__init__" s_BadDef____init__ f fd) : Binds K fd ["self", "at"] [] := F.binds (ps := ["self", "at"]) fun _ _ _ _ _ _ us hl => match us, hl with | [_, _], _ => rfl
theorem bd_BadItem____init__ {f : Addr} {fd : FuncData} (F : Fun K "__init__" "BadItem.__init__" s_BadItem____init__ f fd) : Binds K fd ["self", "at"] [] := F.binds (ps := ["self", "at"]) fun _ _ _ _ _ _ us hl => match us, hl with | [_, _], _ => rfl
theorem bd_BadRun____init__ {f : Addr} {fd : FuncData} (F : Fun K "__init__" "BadRun.__init__" s_BadRun____init__ f fd) : Binds K fd ["self", "at"] [] := F.binds (ps := ["self", "at"]) fun _ _ _ _ _ _ us hl => match us, hl with | [_, _], _ => rfl
theorem bd_Large____init__ {f : Addr} {fd : FuncData} (F : Fun K "__init__" "Large.__init__" s_Large____init__ f fd) : Binds K fd ["self", "number"] [] := F.binds (ps := ["self", "number"]) fun _ _ _ _ _ _ us hl => match us, hl with | [_, _], _ => rfl
theorem bd_Loose____init__ {f : Addr} {fd : FuncData} (F : Fun K "__init__" "Loose.__init__" s_Loose____init__ f fd) : Binds K fd ["self", "where", "word"] [] := F.binds (ps := ["self", "where", "word"]) fun _ _ _ _ _ _ us hl => match us, hl with | [_, _, _], _ => rfl
theorem bd_NoChoice____init__ {f : Addr} {fd : FuncData} (F : Fun K "__init__" "NoChoice.__init__" s_NoChoice____init__ f fd) : Binds K fd ["self", "at"] [] := F.binds (ps := ["self", "at"]) fun _ _ _ _ _ _ us hl => match us, hl with | [_, _], _ => rfl
theorem bd_NoDef____init__ {f : Addr} {fd : FuncData} (F : Fun K "__init__" "NoDef.__init__" s_NoDef____init__ f fd) : Binds K fd ["self", "name"] [] := F.binds (ps := ["self", "name"]) fun _ _ _ _ _ _ us hl => match us, hl with | [_, _], _ => rfl
theorem bd_NoPath____init__ {f : Addr} {fd : FuncData} (F : Fun K "__init__" "NoPath.__init__" s_NoPath____init__ f fd) : Binds K fd ["self", "path"] [] := F.binds (ps := ["self", "path"]) fun _ _ _ _ _ _ us hl => match us, hl with | [_, _], _ => rfl
theorem bd_Stopped____init__ {f : Addr} {fd : FuncData} (F : Fun K "__init__" "Stopped.__init__" s_Stopped____init__ f fd) : Binds K fd ["self", "at"] [] := F.binds (ps := ["self", "at"]) fun _ _ _ _ _ _ us hl => match us, hl with | [_, _], _ => rfl
theorem bd_TooMany____init__ {f : Addr} {fd : FuncData} (F : Fun K "__init__" "TooMany.__init__" s_TooMany____init__ f fd) : Binds K fd ["self", "number"] [] := F.binds (ps := ["self", "number"]) fun _ _ _ _ _ _ us hl => match us, hl with | [_, _], _ => rfl
theorem bd_Twice____init__ {f : Addr} {fd : FuncData} (F : Fun K "__init__" "Twice.__init__" s_Twice____init__ f fd) : Binds K fd ["self", "name"] [] := F.binds (ps := ["self", "name"]) fun _ _ _ _ _ _ us hl => match us, hl with | [_, _], _ => rfl
theorem bd_Unfit____init__ {f : Addr} {fd : FuncData} (F : Fun K "__init__" "Unfit.__init__" s_Unfit____init__ f fd) : Binds K fd ["self", "where", "many"] [] := F.binds (ps := ["self", "where", "many"]) fun _ _ _ _ _ _ us hl => match us, hl with | [_, _, _], _ => rfl
theorem cs (T : Fs w K mg) : ∀ n, Cs P w K mg base (n + 2) (den n)
  | 0 => {
    c__law_bag := let ⟨_, _, F, m⟩ := T.f__law_bag; fnD_zero F m (bd__law_bag F)
    c__law_take := let ⟨_, _, F, m⟩ := T.f__law_take; fnD_zero F m (bd__law_take F)
    c__law_flags := let ⟨_, _, F, m⟩ := T.f__law_flags; fnD_zero F m (bd__law_flags F)
    c__law_thing := let ⟨_, _, F, m⟩ := T.f__law_thing; fnD_zero F m (bd__law_thing F)
    c__law_made := let ⟨_, _, F, m⟩ := T.f__law_made; fnD_zero F m (bd__law_made F)
    c__law_told := let ⟨_, _, F, m⟩ := T.f__law_told; fnD_zero F m (bd__law_told F)
    c_law := let ⟨_, _, F, m⟩ := T.f_law; fnD_zero F m (bd_law F)
    e_Astray := let ⟨_, _, _, F, m, o, i, t, h⟩ := T.f_Astray____init__; ⟨_, _, _, _, m, o, i, t, h, ei_Astray F T.G.b_MeltError, bd_Astray____init__ F, rfl⟩
    e_BadDef := let ⟨_, _, _, F, m, o, i, t, h⟩ := T.f_BadDef____init__; ⟨_, _, _, _, m, o, i, t, h, ei_BadDef F T.G.b_MeltError, bd_BadDef____init__ F, rfl⟩
    e_BadItem := let ⟨_, _, _, F, m, o, i, t, h⟩ := T.f_BadItem____init__; ⟨_, _, _, _, m, o, i, t, h, ei_BadItem F T.G.b_MeltError, bd_BadItem____init__ F, rfl⟩
    e_BadRun := let ⟨_, _, _, F, m, o, i, t, h⟩ := T.f_BadRun____init__; ⟨_, _, _, _, m, o, i, t, h, ei_BadRun F T.G.b_MeltError, bd_BadRun____init__ F, rfl⟩
    e_Large := let ⟨_, _, _, F, m, o, i, t, h⟩ := T.f_Large____init__; ⟨_, _, _, _, m, o, i, t, h, ei_Large F T.G.b_MeltError, bd_Large____init__ F, rfl⟩
    e_Loose := let ⟨_, _, _, F, m, o, i, t, h⟩ := T.f_Loose____init__; ⟨_, _, _, _, m, o, i, t, h, ei_Loose F T.G.b_MeltError, bd_Loose____init__ F, rfl⟩
    e_NoChoice := let ⟨_, _, _, F, m, o, i, t, h⟩ := T.f_NoChoice____init__; ⟨_, _, _, _, m, o, i, t, h, ei_NoChoice F T.G.b_MeltError, bd_NoChoice____init__ F, rfl⟩
    e_NoDef := let ⟨_, _, _, F, m, o, i, t, h⟩ := T.f_NoDef____init__; ⟨_, _, _, _, m, o, i, t, h, ei_NoDef F T.G.b_MeltError, bd_NoDef____init__ F, rfl⟩
    e_NoPath := let ⟨_, _, _, F, m, o, i, t, h⟩ := T.f_NoPath____init__; ⟨_, _, _, _, m, o, i, t, h, ei_NoPath F T.G.b_MeltError, bd_NoPath____init__ F, rfl⟩
    e_Stopped := let ⟨_, _, _, F, m, o, i, t, h⟩ := T.f_Stopped____init__; ⟨_, _, _, _, m, o, i, t, h, ei_Stopped F T.G.b_MeltError, bd_Stopped____init__ F, rfl⟩
    e_TooMany := let ⟨_, _, _, F, m, o, i, t, h⟩ := T.f_TooMany____init__; ⟨_, _, _, _, m, o, i, t, h, ei_TooMany F T.G.b_MeltError, bd_TooMany____init__ F, rfl⟩
    e_Twice := let ⟨_, _, _, F, m, o, i, t, h⟩ := T.f_Twice____init__; ⟨_, _, _, _, m, o, i, t, h, ei_Twice F T.G.b_MeltError, bd_Twice____init__ F, rfl⟩
    e_Unfit := let ⟨_, _, _, F, m, o, i, t, h⟩ := T.f_Unfit____init__; ⟨_, _, _, _, m, o, i, t, h, ei_Unfit F T.G.b_MeltError, bd_Unfit____init__ F, rfl⟩
  }
  | n + 1 => {
    c__law_bag := let ⟨_, _, F, m⟩ := T.f__law_bag; ⟨_, _, _, rfl, den__law_bag n ▸ ok__law_bag F T.G (cs T n), m, F.kp, bd__law_bag F⟩
    c__law_take := let ⟨_, _, F, m⟩ := T.f__law_take; ⟨_, _, _, rfl, den__law_take n ▸ ok__law_take F T.G (cs T n), m, F.kp, bd__law_take F⟩
    c__law_flags := let ⟨_, _, F, m⟩ := T.f__law_flags; ⟨_, _, _, rfl, den__law_flags n ▸ ok__law_flags F T.G (cs T n), m, F.kp, bd__law_flags F⟩
    c__law_thing := let ⟨_, _, F, m⟩ := T.f__law_thing; ⟨_, _, _, rfl, den__law_thing n ▸ ok__law_thing F T.G (cs T n), m, F.kp, bd__law_thing F⟩
    c__law_made := let ⟨_, _, F, m⟩ := T.f__law_made; ⟨_, _, _, rfl, den__law_made n ▸ ok__law_made F T.G (cs T n), m, F.kp, bd__law_made F⟩
    c__law_told := let ⟨_, _, F, m⟩ := T.f__law_told; ⟨_, _, _, rfl, den__law_told n ▸ ok__law_told F T.G (cs T n), m, F.kp, bd__law_told F⟩
    c_law := let ⟨_, _, F, m⟩ := T.f_law; ⟨_, _, _, rfl, den_law n ▸ ok_law F T.G (cs T n), m, F.kp, bd_law F⟩
    e_Astray := let ⟨_, _, _, F, m, o, i, t, h⟩ := T.f_Astray____init__; ⟨_, _, _, _, m, o, i, t, h, ei_Astray F T.G.b_MeltError, bd_Astray____init__ F, rfl⟩
    e_BadDef := let ⟨_, _, _, F, m, o, i, t, h⟩ := T.f_BadDef____init__; ⟨_, _, _, _, m, o, i, t, h, ei_BadDef F T.G.b_MeltError, bd_BadDef____init__ F, rfl⟩
    e_BadItem := let ⟨_, _, _, F, m, o, i, t, h⟩ := T.f_BadItem____init__; ⟨_, _, _, _, m, o, i, t, h, ei_BadItem F T.G.b_MeltError, bd_BadItem____init__ F, rfl⟩
    e_BadRun := let ⟨_, _, _, F, m, o, i, t, h⟩ := T.f_BadRun____init__; ⟨_, _, _, _, m, o, i, t, h, ei_BadRun F T.G.b_MeltError, bd_BadRun____init__ F, rfl⟩
    e_Large := let ⟨_, _, _, F, m, o, i, t, h⟩ := T.f_Large____init__; ⟨_, _, _, _, m, o, i, t, h, ei_Large F T.G.b_MeltError, bd_Large____init__ F, rfl⟩
    e_Loose := let ⟨_, _, _, F, m, o, i, t, h⟩ := T.f_Loose____init__; ⟨_, _, _, _, m, o, i, t, h, ei_Loose F T.G.b_MeltError, bd_Loose____init__ F, rfl⟩
    e_NoChoice := let ⟨_, _, _, F, m, o, i, t, h⟩ := T.f_NoChoice____init__; ⟨_, _, _, _, m, o, i, t, h, ei_NoChoice F T.G.b_MeltError, bd_NoChoice____init__ F, rfl⟩
    e_NoDef := let ⟨_, _, _, F, m, o, i, t, h⟩ := T.f_NoDef____init__; ⟨_, _, _, _, m, o, i, t, h, ei_NoDef F T.G.b_MeltError, bd_NoDef____init__ F, rfl⟩
    e_NoPath := let ⟨_, _, _, F, m, o, i, t, h⟩ := T.f_NoPath____init__; ⟨_, _, _, _, m, o, i, t, h, ei_NoPath F T.G.b_MeltError, bd_NoPath____init__ F, rfl⟩
    e_Stopped := let ⟨_, _, _, F, m, o, i, t, h⟩ := T.f_Stopped____init__; ⟨_, _, _, _, m, o, i, t, h, ei_Stopped F T.G.b_MeltError, bd_Stopped____init__ F, rfl⟩
    e_TooMany := let ⟨_, _, _, F, m, o, i, t, h⟩ := T.f_TooMany____init__; ⟨_, _, _, _, m, o, i, t, h, ei_TooMany F T.G.b_MeltError, bd_TooMany____init__ F, rfl⟩
    e_Twice := let ⟨_, _, _, F, m, o, i, t, h⟩ := T.f_Twice____init__; ⟨_, _, _, _, m, o, i, t, h, ei_Twice F T.G.b_MeltError, bd_Twice____init__ F, rfl⟩
    e_Unfit := let ⟨_, _, _, F, m, o, i, t, h⟩ := T.f_Unfit____init__; ⟨_, _, _, _, m, o, i, t, h, ei_Unfit F T.G.b_MeltError, bd_Unfit____init__ F, rfl⟩
  }
end
theorem all_mk {l : PySem.W.OpenLaw} {w : World} {K : PySem.W.Frag} {h : Heap} {mg : Str → Option Value} {fa : Addr} {N : Nat} (X : K.In h) (G : h.Ns mainGlobals mg) (hfa : mg "law" = some (.ref fa))
    {f1 : Addr} {od1 an1 : Option Addr} {sl1 : Array (Option Value)} {oc1 kV1 dc1 pm1 cd1 ct1 : Value}
    (a1 : PySem.W.nsIn K mainGlobals "_law_bag" = some (some (.ref f1))) (l1 : K.lookup f1 = some ⟨oc1, od1, .func (PySem.W.fnOf "_law_bag" "_law_bag" (defArgs s__law_bag) (defBody s__law_bag) (defScope s__law_bag) .none kV1 dc1 pm1 an1 cd1 ct1), sl1⟩) (c1 : PySem.W.codeIn K cd1 "_law_bag" = true) (k1 : PySem.W.keepIn K (.ref f1) = true)
    {f2 : Addr} {od2 an2 : Option Addr} {sl2 : Array (Option Value)} {oc2 kV2 dc2 pm2 cd2 ct2 : Value}
    (a2 : PySem.W.nsIn K mainGlobals "_law_take" = some (some (.ref f2))) (l2 : K.lookup f2 = some ⟨oc2, od2, .func (PySem.W.fnOf "_law_take" "_law_take" (defArgs s__law_take) (defBody s__law_take) (defScope s__law_take) .none kV2 dc2 pm2 an2 cd2 ct2), sl2⟩) (c2 : PySem.W.codeIn K cd2 "_law_take" = true) (k2 : PySem.W.keepIn K (.ref f2) = true)
    {f3 : Addr} {od3 an3 : Option Addr} {sl3 : Array (Option Value)} {oc3 kV3 dc3 pm3 cd3 ct3 : Value}
    (a3 : PySem.W.nsIn K mainGlobals "_law_flags" = some (some (.ref f3))) (l3 : K.lookup f3 = some ⟨oc3, od3, .func (PySem.W.fnOf "_law_flags" "_law_flags" (defArgs s__law_flags) (defBody s__law_flags) (defScope s__law_flags) .none kV3 dc3 pm3 an3 cd3 ct3), sl3⟩) (c3 : PySem.W.codeIn K cd3 "_law_flags" = true) (k3 : PySem.W.keepIn K (.ref f3) = true)
    {f4 : Addr} {od4 an4 : Option Addr} {sl4 : Array (Option Value)} {oc4 kV4 dc4 pm4 cd4 ct4 : Value}
    (a4 : PySem.W.nsIn K mainGlobals "_law_thing" = some (some (.ref f4))) (l4 : K.lookup f4 = some ⟨oc4, od4, .func (PySem.W.fnOf "_law_thing" "_law_thing" (defArgs s__law_thing) (defBody s__law_thing) (defScope s__law_thing) .none kV4 dc4 pm4 an4 cd4 ct4), sl4⟩) (c4 : PySem.W.codeIn K cd4 "_law_thing" = true) (k4 : PySem.W.keepIn K (.ref f4) = true)
    {f5 : Addr} {od5 an5 : Option Addr} {sl5 : Array (Option Value)} {oc5 kV5 dc5 pm5 cd5 ct5 : Value}
    (a5 : PySem.W.nsIn K mainGlobals "_law_made" = some (some (.ref f5))) (l5 : K.lookup f5 = some ⟨oc5, od5, .func (PySem.W.fnOf "_law_made" "_law_made" (defArgs s__law_made) (defBody s__law_made) (defScope s__law_made) .none kV5 dc5 pm5 an5 cd5 ct5), sl5⟩) (c5 : PySem.W.codeIn K cd5 "_law_made" = true) (k5 : PySem.W.keepIn K (.ref f5) = true)
    {f6 : Addr} {od6 an6 : Option Addr} {sl6 : Array (Option Value)} {oc6 kV6 dc6 pm6 cd6 ct6 : Value}
    (a6 : PySem.W.nsIn K mainGlobals "_law_told" = some (some (.ref f6))) (l6 : K.lookup f6 = some ⟨oc6, od6, .func (PySem.W.fnOf "_law_told" "_law_told" (defArgs s__law_told) (defBody s__law_told) (defScope s__law_told) .none kV6 dc6 pm6 an6 cd6 ct6), sl6⟩) (c6 : PySem.W.codeIn K cd6 "_law_told" = true) (k6 : PySem.W.keepIn K (.ref f6) = true)
    {f7 : Addr} {od7 an7 : Option Addr} {sl7 : Array (Option Value)} {oc7 kV7 dc7 pm7 cd7 ct7 : Value}
    (a7 : PySem.W.nsIn K mainGlobals "law" = some (some (.ref f7))) (l7 : K.lookup f7 = some ⟨oc7, od7, .func (PySem.W.fnOf "law" "law" (defArgs s_law) (defBody s_law) (defScope s_law) .none kV7 dc7 pm7 an7 cd7 ct7), sl7⟩) (c7 : PySem.W.codeIn K cd7 "law" = true) (k7 : PySem.W.keepIn K (.ref f7) = true)
    {E0 : Addr} {xn0 xp0 : Str} {xN0 : Addr} {xbs0 xbm0 : List Value} {xsn0 : List Str} {xsu0 : List Value} {xab0 : Bool} {xco0 : Option Bool} {xdd0 : Option Addr} {xe0 xf0 xi0 xj0 xl0 : Option Value} {xF0 : Addr} {xod0 xan0 : Option Addr} {xsl0 : Array (Option Value)} {xoc0 xkV0 xdc0 xpm0 xcd0 xct0 : Value} (xa0 : PySem.W.nsIn K mainGlobals "Astray" = some (some (.ref E0))) (xs0 : PySem.W.subIn K (.ref E0) (.type "BaseException") = some true) (xt0 : PySem.W.typeIn K (.ref E0) = some (.type "type")) (xd0 : PySem.W.hasDictIn K E0 = true) (xo0 : PySem.W.subIn K (.ref E0) (.ref E0) = some true) (xv0 : PySem.W.subIn K (.ref E0) (.type "ValueError") = some true) (xk0 : PySem.W.keepIn K (.ref E0) = true) (xg0 : PySem.W.findIn K (.ref E0) "__getattribute__" = some (some (.builtin "BaseException.__getattribute__"))) (xh0 : PySem.W.findIn K (.ref E0) "__getattr__" = some none) (xc0 : PySem.W.findIn K (.ref E0) "__class__" = some (some (.builtin "object.__class__"))) (xm0 : PySem.W.mroIn K E0 (.type "object") = some true) (xw0 : PySem.W.findIn K (.ref E0) "__setattr__" = some (some (.builtin "object.__setattr__"))) (xL0 : K.lookup E0 = some (excClassObj xn0 xp0 E0 xN0 xbs0 xbm0 true xsn0 xsu0 xab0 xco0 xdd0 xe0 xf0 xi0 xj0 xl0 "ValueError.__new__")) (yrV0 : PySem.HandSPX.refsVE xbm0 = true) (xI0 : PySem.W.findIn K (.ref E0) "__init__" = some (some (.ref xF0))) (xT0 : PySem.W.typeIn K (.ref xF0) = some (.type "function")) (xl_0 : K.lookup xF0 = some ⟨xoc0, xod0, .func (PySem.W.fnOf "__init__" "Astray.__init__" (defArgs s_Astray____init__) (defBody s_Astray____init__) (defScope s_Astray____init__) .none xkV0 xdc0 xpm0 xan0 xcd0 xct0), xsl0⟩) (xC0 : PySem.W.codeIn K xcd0 "Astray.__init__" = true) (xK0 : PySem.W.keepIn K (.ref xF0) = true) (xn_where0 : PySem.W.findIn K (.ref E0) "where" = some none) (xn_word0 : PySem.W.findIn K (.ref E0) "word" = some none)
    {E1 : Addr} {xn1 xp1 : Str} {xN1 : Addr} {xbs1 xbm1 : List Value} {xsn1 : List Str} {xsu1 : List Value} {xab1 : Bool} {xco1 : Option Bool} {xdd1 : Option Addr} {xe1 xf1 xi1 xj1 xl1 : Option Value} {xF1 : Addr} {xod1 xan1 : Option Addr} {xsl1 : Array (Option Value)} {xoc1 xkV1 xdc1 xpm1 xcd1 xct1 : Value} (xa1 : PySem.W.nsIn K mainGlobals "BadDef" = some (some (.ref E1))) (xs1 : PySem.W.subIn K (.ref E1) (.type "BaseException") = some true) (xt1 : PySem.W.typeIn K (.ref E1) = some (.type "type")) (xd1 : PySem.W.hasDictIn K E1 = true) (xo1 : PySem.W.subIn K (.ref E1) (.ref E1) = some true) (xv1 : PySem.W.subIn K (.ref E1) (.type "ValueError") = some true) (xk1 : PySem.W.keepIn K (.ref E1) = true) (xg1 : PySem.W.findIn K (.ref E1) "__getattribute__" = some (some (.builtin "BaseException.__getattribute__"))) (xh1 : PySem.W.findIn K (.ref E1) "__getattr__" = some none) (xc1 : PySem.W.findIn K (.ref E1) "__class__" = some (some (.builtin "object.__class__"))) (xm1 : PySem.W.mroIn K E1 (.type "object") = some true) (xw1 : PySem.W.findIn K (.ref E1) "__setattr__" = some (some (.builtin "object.__setattr__"))) (xL1 : K.lookup E1 = some (excClassObj xn1 xp1 E1 xN1 xbs1 xbm1 true xsn1 xsu1 xab1 xco1 xdd1 xe1 xf1 xi1 xj1 xl1 "ValueError.__new__")) (yrV1 : PySem.HandSPX.refsVE xbm1 = true) (xI1 : PySem.W.findIn K (.ref E1) "__init__" = some (some (.ref xF1))) (xT1 : PySem.W.typeIn K (.ref xF1) = some (.type "function")) (xl_1 : K.lookup xF1 = some ⟨xoc1, xod1, .func (PySem.W.fnOf "__init__" "BadDef.__init__" (defArgs s_BadDef____init__) (defBody s_BadDef____init__) (defScope s_BadDef____init__) .none xkV1 xdc1 xpm1 xan1 xcd1 xct1), xsl1⟩) (xC1 : PySem.W.codeIn K xcd1 "BadDef.__init__" = true) (xK1 : PySem.W.keepIn K (.ref xF1) = true) (xn_at1 : PySem.W.findIn K (.ref E1) "at" = some none)
    {E2 : Addr} {xn2 xp2 : Str} {xN2 : Addr} {xbs2 xbm2 : List Value} {xsn2 : List Str} {xsu2 : List Value} {xab2 : Bool} {xco2 : Option Bool} {xdd2 : Option Addr} {xe2 xf2 xi2 xj2 xl2 : Option Value} {xF2 : Addr} {xod2 xan2 : Option Addr} {xsl2 : Array (Option Value)} {xoc2 xkV2 xdc2 xpm2 xcd2 xct2 : Value} (xa2 : PySem.W.nsIn K mainGlobals "BadItem" = some (some (.ref E2))) (xs2 : PySem.W.subIn K (.ref E2) (.type "BaseException") = some true) (xt2 : PySem.W.typeIn K (.ref E2) = some (.type "type")) (xd2 : PySem.W.hasDictIn K E2 = true) (xo2 : PySem.W.subIn K (.ref E2) (.ref E2) = some true) (xv2 : PySem.W.subIn K (.ref E2) (.type "ValueError") = some true) (xk2 : PySem.W.keepIn K (.ref E2) = true) (xg2 : PySem.W.findIn K (.ref E2) "__getattribute__" = some (some (.builtin "BaseException.__getattribute__"))) (xh2 : PySem.W.findIn K (.ref E2) "__getattr__" = some none) (xc2 : PySem.W.findIn K (.ref E2) "__class__" = some (some (.builtin "object.__class__"))) (xm2 : PySem.W.mroIn K E2 (.type "object") = some true) (xw2 : PySem.W.findIn K (.ref E2) "__setattr__" = some (some (.builtin "object.__setattr__"))) (xL2 : K.lookup E2 = some (excClassObj xn2 xp2 E2 xN2 xbs2 xbm2 true xsn2 xsu2 xab2 xco2 xdd2 xe2 xf2 xi2 xj2 xl2 "ValueError.__new__")) (yrV2 : PySem.HandSPX.refsVE xbm2 = true) (xI2 : PySem.W.findIn K (.ref E2) "__init__" = some (some (.ref xF2))) (xT2 : PySem.W.typeIn K (.ref xF2) = some (.type "function")) (xl_2 : K.lookup xF2 = some ⟨xoc2, xod2, .func (PySem.W.fnOf "__init__" "BadItem.__init__" (defArgs s_BadItem____init__) (defBody s_BadItem____init__) (defScope s_BadItem____init__) .none xkV2 xdc2 xpm2 xan2 xcd2 xct2), xsl2⟩) (xC2 : PySem.W.codeIn K xcd2 "BadItem.__init__" = true) (xK2 : PySem.W.keepIn K (.ref xF2) = true) (xn_at2 : PySem.W.findIn K (.ref E2) "at" = some none)
    {E3 : Addr} {xn3 xp3 : Str} {xN3 : Addr} {xbs3 xbm3 : List Value} {xsn3 : List Str} {xsu3 : List Value} {xab3 : Bool} {xco3 : Option Bool} {xdd3 : Option Addr} {xe3 xf3 xi3 xj3 xl3 : Option Value} {xF3 : Addr} {xod3 xan3 : Option Addr} {xsl3 : Array (Option Value)} {xoc3 xkV3 xdc3 xpm3 xcd3 xct3 : Value} (xa3 : PySem.W.nsIn K mainGlobals "BadRun" = some (some (.ref E3))) (xs3 : PySem.W.subIn K (.ref E3) (.type "BaseException") = some true) (xt3 : PySem.W.typeIn K (.ref E3) = some (.type "type")) (xd3 : PySem.W.hasDictIn K E3 = true) (xo3 : PySem.W.subIn K (.ref E3) (.ref E3) = some true) (xv3 : PySem.W.subIn K (.ref E3) (.type "ValueError") = some true) (xk3 : PySem.W.keepIn K (.ref E3) = true) (xg3 : PySem.W.findIn K (.ref E3) "__getattribute__" = some (some (.builtin "BaseException.__getattribute__"))) (xh3 : PySem.W.findIn K (.ref E3) "__getattr__" = some none) (xc3 : PySem.W.findIn K (.ref E3) "__class__" = some (some (.builtin "object.__class__"))) (xm3 : PySem.W.mroIn K E3 (.type "object") = some true) (xw3 : PySem.W.findIn K (.ref E3) "__setattr__" = some (some (.builtin "object.__setattr__"))) (xL3 : K.lookup E3 = some (excClassObj xn3 xp3 E3 xN3 xbs3 xbm3 true xsn3 xsu3 xab3 xco3 xdd3 xe3 xf3 xi3 xj3 xl3 "ValueError.__new__")) (yrV3 : PySem.HandSPX.refsVE xbm3 = true) (xI3 : PySem.W.findIn K (.ref E3) "__init__" = some (some (.ref xF3))) (xT3 : PySem.W.typeIn K (.ref xF3) = some (.type "function")) (xl_3 : K.lookup xF3 = some ⟨xoc3, xod3, .func (PySem.W.fnOf "__init__" "BadRun.__init__" (defArgs s_BadRun____init__) (defBody s_BadRun____init__) (defScope s_BadRun____init__) .none xkV3 xdc3 xpm3 xan3 xcd3 xct3), xsl3⟩) (xC3 : PySem.W.codeIn K xcd3 "BadRun.__init__" = true) (xK3 : PySem.W.keepIn K (.ref xF3) = true) (xn_at3 : PySem.W.findIn K (.ref E3) "at" = some none)
    {E4 : Addr} {xn4 xp4 : Str} {xN4 : Addr} {xbs4 xbm4 : List Value} {xsn4 : List Str} {xsu4 : List Value} {xab4 : Bool} {xco4 : Option Bool} {xdd4 : Option Addr} {xe4 xf4 xi4 xj4 xl4 : Option Value} {xF4 : Addr} {xod4 xan4 : Option Addr} {xsl4 : Array (Option Value)} {xoc4 xkV4 xdc4 xpm4 xcd4 xct4 : Value} (xa4 : PySem.W.nsIn K mainGlobals "Large" = some (some (.ref E4))) (xs4 : PySem.W.subIn K (.ref E4) (.type "BaseException") = some true) (xt4 : PySem.W.typeIn K (.ref E4) = some (.type "type")) (xd4 : PySem.W.hasDictIn K E4 = true) (xo4 : PySem.W.subIn K (.ref E4) (.ref E4) = some true) (xv4 : PySem.W.subIn K (.ref E4) (.type "ValueError") = some true) (xk4 : PySem.W.keepIn K (.ref E4) = true) (xg4 : PySem.W.findIn K (.ref E4) "__getattribute__" = some (some (.builtin "BaseException.__getattribute__"))) (xh4 : PySem.W.findIn K (.ref E4) "__getattr__" = some none) (xc4 : PySem.W.findIn K (.ref E4) "__class__" = some (some (.builtin "object.__class__"))) (xm4 : PySem.W.mroIn K E4 (.type "object") = some true) (xw4 : PySem.W.findIn K (.ref E4) "__setattr__" = some (some (.builtin "object.__setattr__"))) (xL4 : K.lookup E4 = some (excClassObj xn4 xp4 E4 xN4 xbs4 xbm4 true xsn4 xsu4 xab4 xco4 xdd4 xe4 xf4 xi4 xj4 xl4 "ValueError.__new__")) (yrV4 : PySem.HandSPX.refsVE xbm4 = true) (xI4 : PySem.W.findIn K (.ref E4) "__init__" = some (some (.ref xF4))) (xT4 : PySem.W.typeIn K (.ref xF4) = some (.type "function")) (xl_4 : K.lookup xF4 = some ⟨xoc4, xod4, .func (PySem.W.fnOf "__init__" "Large.__init__" (defArgs s_Large____init__) (defBody s_Large____init__) (defScope s_Large____init__) .none xkV4 xdc4 xpm4 xan4 xcd4 xct4), xsl4⟩) (xC4 : PySem.W.codeIn K xcd4 "Large.__init__" = true) (xK4 : PySem.W.keepIn K (.ref xF4) = true) (xn_number4 : PySem.W.findIn K (.ref E4) "number" = some none)
    {E5 : Addr} {xn5 xp5 : Str} {xN5 : Addr} {xbs5 xbm5 : List Value} {xsn5 : List Str} {xsu5 : List Value} {xab5 : Bool} {xco5 : Option Bool} {xdd5 : Option Addr} {xe5 xf5 xi5 xj5 xl5 : Option Value} {xF5 : Addr} {xod5 xan5 : Option Addr} {xsl5 : Array (Option Value)} {xoc5 xkV5 xdc5 xpm5 xcd5 xct5 : Value} (xa5 : PySem.W.nsIn K mainGlobals "Loose" = some (some (.ref E5))) (xs5 : PySem.W.subIn K (.ref E5) (.type "BaseException") = some true) (xt5 : PySem.W.typeIn K (.ref E5) = some (.type "type")) (xd5 : PySem.W.hasDictIn K E5 = true) (xo5 : PySem.W.subIn K (.ref E5) (.ref E5) = some true) (xv5 : PySem.W.subIn K (.ref E5) (.type "ValueError") = some true) (xk5 : PySem.W.keepIn K (.ref E5) = true) (xg5 : PySem.W.findIn K (.ref E5) "__getattribute__" = some (some (.builtin "BaseException.__getattribute__"))) (xh5 : PySem.W.findIn K (.ref E5) "__getattr__" = some none) (xc5 : PySem.W.findIn K (.ref E5) "__class__" = some (some (.builtin "object.__class__"))) (xm5 : PySem.W.mroIn K E5 (.type "object") = some true) (xw5 : PySem.W.findIn K (.ref E5) "__setattr__" = some (some (.builtin "object.__setattr__"))) (xL5 : K.lookup E5 = some (excClassObj xn5 xp5 E5 xN5 xbs5 xbm5 true xsn5 xsu5 xab5 xco5 xdd5 xe5 xf5 xi5 xj5 xl5 "ValueError.__new__")) (yrV5 : PySem.HandSPX.refsVE xbm5 = true) (xI5 : PySem.W.findIn K (.ref E5) "__init__" = some (some (.ref xF5))) (xT5 : PySem.W.typeIn K (.ref xF5) = some (.type "function")) (xl_5 : K.lookup xF5 = some ⟨xoc5, xod5, .func (PySem.W.fnOf "__init__" "Loose.__init__" (defArgs s_Loose____init__) (defBody s_Loose____init__) (defScope s_Loose____init__) .none xkV5 xdc5 xpm5 xan5 xcd5 xct5), xsl5⟩) (xC5 : PySem.W.codeIn K xcd5 "Loose.__init__" = true) (xK5 : PySem.W.keepIn K (.ref xF5) = true) (xn_where5 : PySem.W.findIn K (.ref E5) "where" = some none) (xn_word5 : PySem.W.findIn K (.ref E5) "word" = some none)
    {E6 : Addr}  (xa6 : PySem.W.nsIn K mainGlobals "MeltError" = some (some (.ref E6))) (xs6 : PySem.W.subIn K (.ref E6) (.type "BaseException") = some true) (xt6 : PySem.W.typeIn K (.ref E6) = some (.type "type")) (xd6 : PySem.W.hasDictIn K E6 = true) (xo6 : PySem.W.subIn K (.ref E6) (.ref E6) = some true) (xv6 : PySem.W.subIn K (.ref E6) (.type "ValueError") = some true) (xk6 : PySem.W.keepIn K (.ref E6) = true) (xg6 : PySem.W.findIn K (.ref E6) "__getattribute__" = some (some (.builtin "BaseException.__getattribute__"))) (xh6 : PySem.W.findIn K (.ref E6) "__getattr__" = some none) (xc6 : PySem.W.findIn K (.ref E6) "__class__" = some (some (.builtin "object.__class__"))) (xm6 : PySem.W.mroIn K E6 (.type "object") = some true) (xX6 : PySem.W.excIn K E6 [.type "ValueError", .type "Exception", .type "BaseException", .type "object"] "ValueError.__new__" = true) (xr6 : PySem.W.readsIn K E6 (.type "type") = true) (xy6 : PySem.W.specialIn K (.ref E6) "__getattribute__" = some (some (.builtin "type.__getattribute__"))) (xz6 : PySem.W.findCls K (.ref E6) (.type "type") "__init__" = some (.val (.builtin "ValueError.__init__")))
    {E7 : Addr} {xn7 xp7 : Str} {xN7 : Addr} {xbs7 xbm7 : List Value} {xsn7 : List Str} {xsu7 : List Value} {xab7 : Bool} {xco7 : Option Bool} {xdd7 : Option Addr} {xe7 xf7 xi7 xj7 xl7 : Option Value} {xF7 : Addr} {xod7 xan7 : Option Addr} {xsl7 : Array (Option Value)} {xoc7 xkV7 xdc7 xpm7 xcd7 xct7 : Value} (xa7 : PySem.W.nsIn K mainGlobals "NoChoice" = some (some (.ref E7))) (xs7 : PySem.W.subIn K (.ref E7) (.type "BaseException") = some true) (xt7 : PySem.W.typeIn K (.ref E7) = some (.type "type")) (xd7 : PySem.W.hasDictIn K E7 = true) (xo7 : PySem.W.subIn K (.ref E7) (.ref E7) = some true) (xv7 : PySem.W.subIn K (.ref E7) (.type "ValueError") = some true) (xk7 : PySem.W.keepIn K (.ref E7) = true) (xg7 : PySem.W.findIn K (.ref E7) "__getattribute__" = some (some (.builtin "BaseException.__getattribute__"))) (xh7 : PySem.W.findIn K (.ref E7) "__getattr__" = some none) (xc7 : PySem.W.findIn K (.ref E7) "__class__" = some (some (.builtin "object.__class__"))) (xm7 : PySem.W.mroIn K E7 (.type "object") = some true) (xw7 : PySem.W.findIn K (.ref E7) "__setattr__" = some (some (.builtin "object.__setattr__"))) (xL7 : K.lookup E7 = some (excClassObj xn7 xp7 E7 xN7 xbs7 xbm7 true xsn7 xsu7 xab7 xco7 xdd7 xe7 xf7 xi7 xj7 xl7 "ValueError.__new__")) (yrV7 : PySem.HandSPX.refsVE xbm7 = true) (xI7 : PySem.W.findIn K (.ref E7) "__init__" = some (some (.ref xF7))) (xT7 : PySem.W.typeIn K (.ref xF7) = some (.type "function")) (xl_7 : K.lookup xF7 = some ⟨xoc7, xod7, .func (PySem.W.fnOf "__init__" "NoChoice.__init__" (defArgs s_NoChoice____init__) (defBody s_NoChoice____init__) (defScope s_NoChoice____init__) .none xkV7 xdc7 xpm7 xan7 xcd7 xct7), xsl7⟩) (xC7 : PySem.W.codeIn K xcd7 "NoChoice.__init__" = true) (xK7 : PySem.W.keepIn K (.ref xF7) = true) (xn_at7 : PySem.W.findIn K (.ref E7) "at" = some none)
    {E8 : Addr} {xn8 xp8 : Str} {xN8 : Addr} {xbs8 xbm8 : List Value} {xsn8 : List Str} {xsu8 : List Value} {xab8 : Bool} {xco8 : Option Bool} {xdd8 : Option Addr} {xe8 xf8 xi8 xj8 xl8 : Option Value} {xF8 : Addr} {xod8 xan8 : Option Addr} {xsl8 : Array (Option Value)} {xoc8 xkV8 xdc8 xpm8 xcd8 xct8 : Value} (xa8 : PySem.W.nsIn K mainGlobals "NoDef" = some (some (.ref E8))) (xs8 : PySem.W.subIn K (.ref E8) (.type "BaseException") = some true) (xt8 : PySem.W.typeIn K (.ref E8) = some (.type "type")) (xd8 : PySem.W.hasDictIn K E8 = true) (xo8 : PySem.W.subIn K (.ref E8) (.ref E8) = some true) (xv8 : PySem.W.subIn K (.ref E8) (.type "ValueError") = some true) (xk8 : PySem.W.keepIn K (.ref E8) = true) (xg8 : PySem.W.findIn K (.ref E8) "__getattribute__" = some (some (.builtin "BaseException.__getattribute__"))) (xh8 : PySem.W.findIn K (.ref E8) "__getattr__" = some none) (xc8 : PySem.W.findIn K (.ref E8) "__class__" = some (some (.builtin "object.__class__"))) (xm8 : PySem.W.mroIn K E8 (.type "object") = some true) (xw8 : PySem.W.findIn K (.ref E8) "__setattr__" = some (some (.builtin "object.__setattr__"))) (xL8 : K.lookup E8 = some (excClassObj xn8 xp8 E8 xN8 xbs8 xbm8 true xsn8 xsu8 xab8 xco8 xdd8 xe8 xf8 xi8 xj8 xl8 "ValueError.__new__")) (yrV8 : PySem.HandSPX.refsVE xbm8 = true) (xI8 : PySem.W.findIn K (.ref E8) "__init__" = some (some (.ref xF8))) (xT8 : PySem.W.typeIn K (.ref xF8) = some (.type "function")) (xl_8 : K.lookup xF8 = some ⟨xoc8, xod8, .func (PySem.W.fnOf "__init__" "NoDef.__init__" (defArgs s_NoDef____init__) (defBody s_NoDef____init__) (defScope s_NoDef____init__) .none xkV8 xdc8 xpm8 xan8 xcd8 xct8), xsl8⟩) (xC8 : PySem.W.codeIn K xcd8 "NoDef.__init__" = true) (xK8 : PySem.W.keepIn K (.ref xF8) = true) (xn_name8 : PySem.W.findIn K (.ref E8) "name" = some none)
    {E9 : Addr} {xn9 xp9 : Str} {xN9 : Addr} {xbs9 xbm9 : List Value} {xsn9 : List Str} {xsu9 : List Value} {xab9 : Bool} {xco9 : Option Bool} {xdd9 : Option Addr} {xe9 xf9 xi9 xj9 xl9 : Option Value} {xF9 : Addr} {xod9 xan9 : Option Addr} {xsl9 : Array (Option Value)} {xoc9 xkV9 xdc9 xpm9 xcd9 xct9 : Value} (xa9 : PySem.W.nsIn K mainGlobals "NoPath" = some (some (.ref E9))) (xs9 : PySem.W.subIn K (.ref E9) (.type "BaseException") = some true) (xt9 : PySem.W.typeIn K (.ref E9) = some (.type "type")) (xd9 : PySem.W.hasDictIn K E9 = true) (xo9 : PySem.W.subIn K (.ref E9) (.ref E9) = some true) (xv9 : PySem.W.subIn K (.ref E9) (.type "ValueError") = some true) (xk9 : PySem.W.keepIn K (.ref E9) = true) (xg9 : PySem.W.findIn K (.ref E9) "__getattribute__" = some (some (.builtin "BaseException.__getattribute__"))) (xh9 : PySem.W.findIn K (.ref E9) "__getattr__" = some none) (xc9 : PySem.W.findIn K (.ref E9) "__class__" = some (some (.builtin "object.__class__"))) (xm9 : PySem.W.mroIn K E9 (.type "object") = some true) (xw9 : PySem.W.findIn K (.ref E9) "__setattr__" = some (some (.builtin "object.__setattr__"))) (xL9 : K.lookup E9 = some (excClassObj xn9 xp9 E9 xN9 xbs9 xbm9 true xsn9 xsu9 xab9 xco9 xdd9 xe9 xf9 xi9 xj9 xl9 "ValueError.__new__")) (yrV9 : PySem.HandSPX.refsVE xbm9 = true) (xI9 : PySem.W.findIn K (.ref E9) "__init__" = some (some (.ref xF9))) (xT9 : PySem.W.typeIn K (.ref xF9) = some (.type "function")) (xl_9 : K.lookup xF9 = some ⟨xoc9, xod9, .func (PySem.W.fnOf "__init__" "NoPath.__init__" (defArgs s_NoPath____init__) (defBody s_NoPath____init__) (defScope s_NoPath____init__) .none xkV9 xdc9 xpm9 xan9 xcd9 xct9), xsl9⟩) (xC9 : PySem.W.codeIn K xcd9 "NoPath.__init__" = true) (xK9 : PySem.W.keepIn K (.ref xF9) = true) (xn_path9 : PySem.W.findIn K (.ref E9) "path" = some none)
    {E10 : Addr}  (xa10 : PySem.W.nsIn K mainGlobals "NoRow" = some (some (.ref E10))) (xs10 : PySem.W.subIn K (.ref E10) (.type "BaseException") = some true) (xt10 : PySem.W.typeIn K (.ref E10) = some (.type "type")) (xd10 : PySem.W.hasDictIn K E10 = true) (xo10 : PySem.W.subIn K (.ref E10) (.ref E10) = some true) (xv10 : PySem.W.subIn K (.ref E10) (.type "ValueError") = some true) (xk10 : PySem.W.keepIn K (.ref E10) = true) (xg10 : PySem.W.findIn K (.ref E10) "__getattribute__" = some (some (.builtin "BaseException.__getattribute__"))) (xh10 : PySem.W.findIn K (.ref E10) "__getattr__" = some none) (xc10 : PySem.W.findIn K (.ref E10) "__class__" = some (some (.builtin "object.__class__"))) (xm10 : PySem.W.mroIn K E10 (.type "object") = some true) (xX10 : PySem.W.excIn K E10 [.type "ValueError", .type "Exception", .type "BaseException", .type "object"] "ValueError.__new__" = true)
    {E11 : Addr}  (xa11 : PySem.W.nsIn K mainGlobals "NoText" = some (some (.ref E11))) (xs11 : PySem.W.subIn K (.ref E11) (.type "BaseException") = some true) (xt11 : PySem.W.typeIn K (.ref E11) = some (.type "type")) (xd11 : PySem.W.hasDictIn K E11 = true) (xo11 : PySem.W.subIn K (.ref E11) (.ref E11) = some true) (xv11 : PySem.W.subIn K (.ref E11) (.type "ValueError") = some true) (xk11 : PySem.W.keepIn K (.ref E11) = true) (xg11 : PySem.W.findIn K (.ref E11) "__getattribute__" = some (some (.builtin "BaseException.__getattribute__"))) (xh11 : PySem.W.findIn K (.ref E11) "__getattr__" = some none) (xc11 : PySem.W.findIn K (.ref E11) "__class__" = some (some (.builtin "object.__class__"))) (xm11 : PySem.W.mroIn K E11 (.type "object") = some true) (xX11 : PySem.W.excIn K E11 [.type "ValueError", .type "Exception", .type "BaseException", .type "object"] "ValueError.__new__" = true)
    {E12 : Addr}  (xa12 : PySem.W.nsIn K mainGlobals "Nothing" = some (some (.ref E12))) (xs12 : PySem.W.subIn K (.ref E12) (.type "BaseException") = some true) (xt12 : PySem.W.typeIn K (.ref E12) = some (.type "type")) (xd12 : PySem.W.hasDictIn K E12 = true) (xo12 : PySem.W.subIn K (.ref E12) (.ref E12) = some true) (xv12 : PySem.W.subIn K (.ref E12) (.type "ValueError") = some true) (xk12 : PySem.W.keepIn K (.ref E12) = true) (xg12 : PySem.W.findIn K (.ref E12) "__getattribute__" = some (some (.builtin "BaseException.__getattribute__"))) (xh12 : PySem.W.findIn K (.ref E12) "__getattr__" = some none) (xc12 : PySem.W.findIn K (.ref E12) "__class__" = some (some (.builtin "object.__class__"))) (xm12 : PySem.W.mroIn K E12 (.type "object") = some true) (xX12 : PySem.W.excIn K E12 [.type "ValueError", .type "Exception", .type "BaseException", .type "object"] "ValueError.__new__" = true)
    {E13 : Addr} {xn13 xp13 : Str} {xN13 : Addr} {xbs13 xbm13 : List Value} {xsn13 : List Str} {xsu13 : List Value} {xab13 : Bool} {xco13 : Option Bool} {xdd13 : Option Addr} {xe13 xf13 xi13 xj13 xl13 : Option Value} {xF13 : Addr} {xod13 xan13 : Option Addr} {xsl13 : Array (Option Value)} {xoc13 xkV13 xdc13 xpm13 xcd13 xct13 : Value} (xa13 : PySem.W.nsIn K mainGlobals "Stopped" = some (some (.ref E13))) (xs13 : PySem.W.subIn K (.ref E13) (.type "BaseException") = some true) (xt13 : PySem.W.typeIn K (.ref E13) = some (.type "type")) (xd13 : PySem.W.hasDictIn K E13 = true) (xo13 : PySem.W.subIn K (.ref E13) (.ref E13) = some true) (xv13 : PySem.W.subIn K (.ref E13) (.type "ValueError") = some true) (xk13 : PySem.W.keepIn K (.ref E13) = true) (xg13 : PySem.W.findIn K (.ref E13) "__getattribute__" = some (some (.builtin "BaseException.__getattribute__"))) (xh13 : PySem.W.findIn K (.ref E13) "__getattr__" = some none) (xc13 : PySem.W.findIn K (.ref E13) "__class__" = some (some (.builtin "object.__class__"))) (xm13 : PySem.W.mroIn K E13 (.type "object") = some true) (xw13 : PySem.W.findIn K (.ref E13) "__setattr__" = some (some (.builtin "object.__setattr__"))) (xL13 : K.lookup E13 = some (excClassObj xn13 xp13 E13 xN13 xbs13 xbm13 true xsn13 xsu13 xab13 xco13 xdd13 xe13 xf13 xi13 xj13 xl13 "ValueError.__new__")) (yrV13 : PySem.HandSPX.refsVE xbm13 = true) (xI13 : PySem.W.findIn K (.ref E13) "__init__" = some (some (.ref xF13))) (xT13 : PySem.W.typeIn K (.ref xF13) = some (.type "function")) (xl_13 : K.lookup xF13 = some ⟨xoc13, xod13, .func (PySem.W.fnOf "__init__" "Stopped.__init__" (defArgs s_Stopped____init__) (defBody s_Stopped____init__) (defScope s_Stopped____init__) .none xkV13 xdc13 xpm13 xan13 xcd13 xct13), xsl13⟩) (xC13 : PySem.W.codeIn K xcd13 "Stopped.__init__" = true) (xK13 : PySem.W.keepIn K (.ref xF13) = true) (xn_at13 : PySem.W.findIn K (.ref E13) "at" = some none)
    {E14 : Addr} {xn14 xp14 : Str} {xN14 : Addr} {xbs14 xbm14 : List Value} {xsn14 : List Str} {xsu14 : List Value} {xab14 : Bool} {xco14 : Option Bool} {xdd14 : Option Addr} {xe14 xf14 xi14 xj14 xl14 : Option Value} {xF14 : Addr} {xod14 xan14 : Option Addr} {xsl14 : Array (Option Value)} {xoc14 xkV14 xdc14 xpm14 xcd14 xct14 : Value} (xa14 : PySem.W.nsIn K mainGlobals "TooMany" = some (some (.ref E14))) (xs14 : PySem.W.subIn K (.ref E14) (.type "BaseException") = some true) (xt14 : PySem.W.typeIn K (.ref E14) = some (.type "type")) (xd14 : PySem.W.hasDictIn K E14 = true) (xo14 : PySem.W.subIn K (.ref E14) (.ref E14) = some true) (xv14 : PySem.W.subIn K (.ref E14) (.type "ValueError") = some true) (xk14 : PySem.W.keepIn K (.ref E14) = true) (xg14 : PySem.W.findIn K (.ref E14) "__getattribute__" = some (some (.builtin "BaseException.__getattribute__"))) (xh14 : PySem.W.findIn K (.ref E14) "__getattr__" = some none) (xc14 : PySem.W.findIn K (.ref E14) "__class__" = some (some (.builtin "object.__class__"))) (xm14 : PySem.W.mroIn K E14 (.type "object") = some true) (xw14 : PySem.W.findIn K (.ref E14) "__setattr__" = some (some (.builtin "object.__setattr__"))) (xL14 : K.lookup E14 = some (excClassObj xn14 xp14 E14 xN14 xbs14 xbm14 true xsn14 xsu14 xab14 xco14 xdd14 xe14 xf14 xi14 xj14 xl14 "ValueError.__new__")) (yrV14 : PySem.HandSPX.refsVE xbm14 = true) (xI14 : PySem.W.findIn K (.ref E14) "__init__" = some (some (.ref xF14))) (xT14 : PySem.W.typeIn K (.ref xF14) = some (.type "function")) (xl_14 : K.lookup xF14 = some ⟨xoc14, xod14, .func (PySem.W.fnOf "__init__" "TooMany.__init__" (defArgs s_TooMany____init__) (defBody s_TooMany____init__) (defScope s_TooMany____init__) .none xkV14 xdc14 xpm14 xan14 xcd14 xct14), xsl14⟩) (xC14 : PySem.W.codeIn K xcd14 "TooMany.__init__" = true) (xK14 : PySem.W.keepIn K (.ref xF14) = true) (xn_number14 : PySem.W.findIn K (.ref E14) "number" = some none)
    {E15 : Addr} {xn15 xp15 : Str} {xN15 : Addr} {xbs15 xbm15 : List Value} {xsn15 : List Str} {xsu15 : List Value} {xab15 : Bool} {xco15 : Option Bool} {xdd15 : Option Addr} {xe15 xf15 xi15 xj15 xl15 : Option Value} {xF15 : Addr} {xod15 xan15 : Option Addr} {xsl15 : Array (Option Value)} {xoc15 xkV15 xdc15 xpm15 xcd15 xct15 : Value} (xa15 : PySem.W.nsIn K mainGlobals "Twice" = some (some (.ref E15))) (xs15 : PySem.W.subIn K (.ref E15) (.type "BaseException") = some true) (xt15 : PySem.W.typeIn K (.ref E15) = some (.type "type")) (xd15 : PySem.W.hasDictIn K E15 = true) (xo15 : PySem.W.subIn K (.ref E15) (.ref E15) = some true) (xv15 : PySem.W.subIn K (.ref E15) (.type "ValueError") = some true) (xk15 : PySem.W.keepIn K (.ref E15) = true) (xg15 : PySem.W.findIn K (.ref E15) "__getattribute__" = some (some (.builtin "BaseException.__getattribute__"))) (xh15 : PySem.W.findIn K (.ref E15) "__getattr__" = some none) (xc15 : PySem.W.findIn K (.ref E15) "__class__" = some (some (.builtin "object.__class__"))) (xm15 : PySem.W.mroIn K E15 (.type "object") = some true) (xw15 : PySem.W.findIn K (.ref E15) "__setattr__" = some (some (.builtin "object.__setattr__"))) (xL15 : K.lookup E15 = some (excClassObj xn15 xp15 E15 xN15 xbs15 xbm15 true xsn15 xsu15 xab15 xco15 xdd15 xe15 xf15 xi15 xj15 xl15 "ValueError.__new__")) (yrV15 : PySem.HandSPX.refsVE xbm15 = true) (xI15 : PySem.W.findIn K (.ref E15) "__init__" = some (some (.ref xF15))) (xT15 : PySem.W.typeIn K (.ref xF15) = some (.type "function")) (xl_15 : K.lookup xF15 = some ⟨xoc15, xod15, .func (PySem.W.fnOf "__init__" "Twice.__init__" (defArgs s_Twice____init__) (defBody s_Twice____init__) (defScope s_Twice____init__) .none xkV15 xdc15 xpm15 xan15 xcd15 xct15), xsl15⟩) (xC15 : PySem.W.codeIn K xcd15 "Twice.__init__" = true) (xK15 : PySem.W.keepIn K (.ref xF15) = true) (xn_name15 : PySem.W.findIn K (.ref E15) "name" = some none)
    {E16 : Addr} {xn16 xp16 : Str} {xN16 : Addr} {xbs16 xbm16 : List Value} {xsn16 : List Str} {xsu16 : List Value} {xab16 : Bool} {xco16 : Option Bool} {xdd16 : Option Addr} {xe16 xf16 xi16 xj16 xl16 : Option Value} {xF16 : Addr} {xod16 xan16 : Option Addr} {xsl16 : Array (Option Value)} {xoc16 xkV16 xdc16 xpm16 xcd16 xct16 : Value} (xa16 : PySem.W.nsIn K mainGlobals "Unfit" = some (some (.ref E16))) (xs16 : PySem.W.subIn K (.ref E16) (.type "BaseException") = some true) (xt16 : PySem.W.typeIn K (.ref E16) = some (.type "type")) (xd16 : PySem.W.hasDictIn K E16 = true) (xo16 : PySem.W.subIn K (.ref E16) (.ref E16) = some true) (xv16 : PySem.W.subIn K (.ref E16) (.type "ValueError") = some true) (xk16 : PySem.W.keepIn K (.ref E16) = true) (xg16 : PySem.W.findIn K (.ref E16) "__getattribute__" = some (some (.builtin "BaseException.__getattribute__"))) (xh16 : PySem.W.findIn K (.ref E16) "__getattr__" = some none) (xc16 : PySem.W.findIn K (.ref E16) "__class__" = some (some (.builtin "object.__class__"))) (xm16 : PySem.W.mroIn K E16 (.type "object") = some true) (xw16 : PySem.W.findIn K (.ref E16) "__setattr__" = some (some (.builtin "object.__setattr__"))) (xL16 : K.lookup E16 = some (excClassObj xn16 xp16 E16 xN16 xbs16 xbm16 true xsn16 xsu16 xab16 xco16 xdd16 xe16 xf16 xi16 xj16 xl16 "ValueError.__new__")) (yrV16 : PySem.HandSPX.refsVE xbm16 = true) (xI16 : PySem.W.findIn K (.ref E16) "__init__" = some (some (.ref xF16))) (xT16 : PySem.W.typeIn K (.ref xF16) = some (.type "function")) (xl_16 : K.lookup xF16 = some ⟨xoc16, xod16, .func (PySem.W.fnOf "__init__" "Unfit.__init__" (defArgs s_Unfit____init__) (defBody s_Unfit____init__) (defScope s_Unfit____init__) .none xkV16 xdc16 xpm16 xan16 xcd16 xct16), xsl16⟩) (xC16 : PySem.W.codeIn K xcd16 "Unfit.__init__" = true) (xK16 : PySem.W.keepIn K (.ref xF16) = true) (xn_where16 : PySem.W.findIn K (.ref E16) "where" = some none) (xn_many16 : PySem.W.findIn K (.ref E16) "many" = some none)
    (xgA : PySem.W.specialIn K (.builtin "object.__class__") "__get__" = some (some (.builtin "getset_descriptor.__get__"))) (xgB : PySem.W.takesIn K (.builtin "object.__class__") = some true) (xP0 : PySem.W.subIn K (.ref E0) (.ref E0) = some true) (xP1 : PySem.W.subIn K (.ref E0) (.ref E1) = some false) (xP2 : PySem.W.subIn K (.ref E0) (.ref E2) = some false) (xP3 : PySem.W.subIn K (.ref E0) (.ref E3) = some false) (xP4 : PySem.W.subIn K (.ref E0) (.ref E4) = some false) (xP5 : PySem.W.subIn K (.ref E0) (.ref E5) = some false) (xP6 : PySem.W.subIn K (.ref E0) (.ref E6) = some true) (xP7 : PySem.W.subIn K (.ref E0) (.ref E7) = some false) (xP8 : PySem.W.subIn K (.ref E0) (.ref E8) = some false) (xP9 : PySem.W.subIn K (.ref E0) (.ref E9) = some false) (xP10 : PySem.W.subIn K (.ref E0) (.ref E10) = some false) (xP11 : PySem.W.subIn K (.ref E0) (.ref E11) = some false) (xP12 : PySem.W.subIn K (.ref E0) (.ref E12) = some false) (xP13 : PySem.W.subIn K (.ref E0) (.ref E13) = some false) (xP14 : PySem.W.subIn K (.ref E0) (.ref E14) = some false) (xP15 : PySem.W.subIn K (.ref E0) (.ref E15) = some false) (xP16 : PySem.W.subIn K (.ref E0) (.ref E16) = some false) (xP17 : PySem.W.subIn K (.ref E1) (.ref E0) = some false) (xP18 : PySem.W.subIn K (.ref E1) (.ref E1) = some true) (xP19 : PySem.W.subIn K (.ref E1) (.ref E2) = some false) (xP20 : PySem.W.subIn K (.ref E1) (.ref E3) = some false) (xP21 : PySem.W.subIn K (.ref E1) (.ref E4) = some false) (xP22 : PySem.W.subIn K (.ref E1) (.ref E5) = some false) (xP23 : PySem.W.subIn K (.ref E1) (.ref E6) = some true) (xP24 : PySem.W.subIn K (.ref E1) (.ref E7) = some false) (xP25 : PySem.W.subIn K (.ref E1) (.ref E8) = some false) (xP26 : PySem.W.subIn K (.ref E1) (.ref E9) = some false) (xP27 : PySem.W.subIn K (.ref E1) (.ref E10) = some false) (xP28 : PySem.W.subIn K (.ref E1) (.ref E11) = some false) (xP29 : PySem.W.subIn K (.ref E1) (.ref E12) = some false) (xP30 : PySem.W.subIn K (.ref E1) (.ref E13) = some false) (xP31 : PySem.W.subIn K (.ref E1) (.ref E14) = some false) (xP32 : PySem.W.subIn K (.ref E1) (.ref E15) = some false) (xP33 : PySem.W.subIn K (.ref E1) (.ref E16) = some false) (xP34 : PySem.W.subIn K (.ref E2) (.ref E0) = some false) (xP35 : PySem.W.subIn K (.ref E2) (.ref E1) = some false) (xP36 : PySem.W.subIn K (.ref E2) (.ref E2) = some true) (xP37 : PySem.W.subIn K (.ref E2) (.ref E3) = some false) (xP38 : PySem.W.subIn K (.ref E2) (.ref E4) = some false) (xP39 : PySem.W.subIn K (.ref E2) (.ref E5) = some false) (xP40 : PySem.W.subIn K (.ref E2) (.ref E6) = some true) (xP41 : PySem.W.subIn K (.ref E2) (.ref E7) = some false) (xP42 : PySem.W.subIn K (.ref E2) (.ref E8) = some false) (xP43 : PySem.W.subIn K (.ref E2) (.ref E9) = some false) (xP44 : PySem.W.subIn K (.ref E2) (.ref E10) = some false) (xP45 : PySem.W.subIn K (.ref E2) (.ref E11) = some false) (xP46 : PySem.W.subIn K (.ref E2) (.ref E12) = some false) (xP47 : PySem.W.subIn K (.ref E2) (.ref E13) = some false) (xP48 : PySem.W.subIn K (.ref E2) (.ref E14) = some false) (xP49 : PySem.W.subIn K (.ref E2) (.ref E15) = some false) (xP50 : PySem.W.subIn K (.ref E2) (.ref E16) = some false) (xP51 : PySem.W.subIn K (.ref E3) (.ref E0) = some false) (xP52 : PySem.W.subIn K (.ref E3) (.ref E1) = some false) (xP53 : PySem.W.subIn K (.ref E3) (.ref E2) = some false) (xP54 : PySem.W.subIn K (.ref E3) (.ref E3) = some true) (xP55 : PySem.W.subIn K (.ref E3) (.ref E4) = some false) (xP56 : PySem.W.subIn K (.ref E3) (.ref E5) = some false) (xP57 : PySem.W.subIn K (.ref E3) (.ref E6) = some true) (xP58 : PySem.W.subIn K (.ref E3) (.ref E7) = some false) (xP59 : PySem.W.subIn K (.ref E3) (.ref E8) = some false) (xP60 : PySem.W.subIn K (.ref E3) (.ref E9) = some false) (xP61 : PySem.W.subIn K (.ref E3) (.ref E10) = some false) (xP62 : PySem.W.subIn K (.ref E3) (.ref E11) = some false) (xP63 : PySem.W.subIn K (.ref E3) (.ref E12) = some false) (xP64 : PySem.W.subIn K (.ref E3) (.ref E13) = some false) (xP65 : PySem.W.subIn K (.ref E3) (.ref E14) = some false) (xP66 : PySem.W.subIn K (.ref E3) (.ref E15) = some false) (xP67 : PySem.W.subIn K (.ref E3) (.ref E16) = some false) (xP68 : PySem.W.subIn K (.ref E4) (.ref E0) = some false) (xP69 : PySem.W.subIn K (.ref E4) (.ref E1) = some false) (xP70 : PySem.W.subIn K (.ref E4) (.ref E2) = some false) (xP71 : PySem.W.subIn K (.ref E4) (.ref E3) = some false) (xP72 : PySem.W.subIn K (.ref E4) (.ref E4) = some true) (xP73 : PySem.W.subIn K (.ref E4) (.ref E5) = some false) (xP74 : PySem.W.subIn K (.ref E4) (.ref E6) = some true) (xP75 : PySem.W.subIn K (.ref E4) (.ref E7) = some false) (xP76 : PySem.W.subIn K (.ref E4) (.ref E8) = some false) (xP77 : PySem.W.subIn K (.ref E4) (.ref E9) = some false) (xP78 : PySem.W.subIn K (.ref E4) (.ref E10) = some false) (xP79 : PySem.W.subIn K (.ref E4) (.ref E11) = some false) (xP80 : PySem.W.subIn K (.ref E4) (.ref E12) = some false) (xP81 : PySem.W.subIn K (.ref E4) (.ref E13) = some false) (xP82 : PySem.W.subIn K (.ref E4) (.ref E14) = some false) (xP83 : PySem.W.subIn K (.ref E4) (.ref E15) = some false) (xP84 : PySem.W.subIn K (.ref E4) (.ref E16) = some false) (xP85 : PySem.W.subIn K (.ref E5) (.ref E0) = some false) (xP86 : PySem.W.subIn K (.ref E5) (.ref E1) = some false) (xP87 : PySem.W.subIn K (.ref E5) (.ref E2) = some false) (xP88 : PySem.W.subIn K (.ref E5) (.ref E3) = some false) (xP89 : PySem.W.subIn K (.ref E5) (.ref E4) = some false) (xP90 : PySem.W.subIn K (.ref E5) (.ref E5) = some true) (xP91 : PySem.W.subIn K (.ref E5) (.ref E6) = some true) (xP92 : PySem.W.subIn K (.ref E5) (.ref E7) = some false) (xP93 : PySem.W.subIn K (.ref E5) (.ref E8) = some false) (xP94 : PySem.W.subIn K (.ref E5) (.ref E9) = some false) (xP95 : PySem.W.subIn K (.ref E5) (.ref E10) = some false) (xP96 : PySem.W.subIn K (.ref E5) (.ref E11) = some false) (xP97 : PySem.W.subIn K (.ref E5) (.ref E12) = some false) (xP98 : PySem.W.subIn K (.ref E5) (.ref E13) = some false) (xP99 : PySem.W.subIn K (.ref E5) (.ref E14) = some false) (xP100 : PySem.W.subIn K (.ref E5) (.ref E15) = some false) (xP101 : PySem.W.subIn K (.ref E5) (.ref E16) = some false) (xP102 : PySem.W.subIn K (.ref E6) (.ref E0) = some false) (xP103 : PySem.W.subIn K (.ref E6) (.ref E1) = some false) (xP104 : PySem.W.subIn K (.ref E6) (.ref E2) = some false) (xP105 : PySem.W.subIn K (.ref E6) (.ref E3) = some false) (xP106 : PySem.W.subIn K (.ref E6) (.ref E4) = some false) (xP107 : PySem.W.subIn K (.ref E6) (.ref E5) = some false) (xP108 : PySem.W.subIn K (.ref E6) (.ref E6) = some true) (xP109 : PySem.W.subIn K (.ref E6) (.ref E7) = some false) (xP110 : PySem.W.subIn K (.ref E6) (.ref E8) = some false) (xP111 : PySem.W.subIn K (.ref E6) (.ref E9) = some false) (xP112 : PySem.W.subIn K (.ref E6) (.ref E10) = some false) (xP113 : PySem.W.subIn K (.ref E6) (.ref E11) = some false) (xP114 : PySem.W.subIn K (.ref E6) (.ref E12) = some false) (xP115 : PySem.W.subIn K (.ref E6) (.ref E13) = some false) (xP116 : PySem.W.subIn K (.ref E6) (.ref E14) = some false) (xP117 : PySem.W.subIn K (.ref E6) (.ref E15) = some false) (xP118 : PySem.W.subIn K (.ref E6) (.ref E16) = some false) (xP119 : PySem.W.subIn K (.ref E7) (.ref E0) = some false) (xP120 : PySem.W.subIn K (.ref E7) (.ref E1) = some false) (xP121 : PySem.W.subIn K (.ref E7) (.ref E2) = some false) (xP122 : PySem.W.subIn K (.ref E7) (.ref E3) = some false) (xP123 : PySem.W.subIn K (.ref E7) (.ref E4) = some false) (xP124 : PySem.W.subIn K (.ref E7) (.ref E5) = some false) (xP125 : PySem.W.subIn K (.ref E7) (.ref E6) = some true) (xP126 : PySem.W.subIn K (.ref E7) (.ref E7) = some true) (xP127 : PySem.W.subIn K (.ref E7) (.ref E8) = some false) (xP128 : PySem.W.subIn K (.ref E7) (.ref E9) = some false) (xP129 : PySem.W.subIn K (.ref E7) (.ref E10) = some false) (xP130 : PySem.W.subIn K (.ref E7) (.ref E11) = some false) (xP131 : PySem.W.subIn K (.ref E7) (.ref E12) = some false) (xP132 : PySem.W.subIn K (.ref E7) (.ref E13) = some false) (xP133 : PySem.W.subIn K (.ref E7) (.ref E14) = some false) (xP134 : PySem.W.subIn K (.ref E7) (.ref E15) = some false) (xP135 : PySem.W.subIn K (.ref E7) (.ref E16) = some false) (xP136 : PySem.W.subIn K (.ref E8) (.ref E0) = some false) (xP137 : PySem.W.subIn K (.ref E8) (.ref E1) = some false) (xP138 : PySem.W.subIn K (.ref E8) (.ref E2) = some false) (xP139 : PySem.W.subIn K (.ref E8) (.ref E3) = some false) (xP140 : PySem.W.subIn K (.ref E8) (.ref E4) = some false) (xP141 : PySem.W.subIn K (.ref E8) (.ref E5) = some false) (xP142 : PySem.W.subIn K (.ref E8) (.ref E6) = some true) (xP143 : PySem.W.subIn K (.ref E8) (.ref E7) = some false) (xP144 : PySem.W.subIn K (.ref E8) (.ref E8) = some true) (xP145 : PySem.W.subIn K (.ref E8) (.ref E9) = some false) (xP146 : PySem.W.subIn K (.ref E8) (.ref E10) = some false) (xP147 : PySem.W.subIn K (.ref E8) (.ref E11) = some false) (xP148 : PySem.W.subIn K (.ref E8) (.ref E12) = some false) (xP149 : PySem.W.subIn K (.ref E8) (.ref E13) = some false) (xP150 : PySem.W.subIn K (.ref E8) (.ref E14) = some false) (xP151 : PySem.W.subIn K (.ref E8) (.ref E15) = some false) (xP152 : PySem.W.subIn K (.ref E8) (.ref E16) = some false) (xP153 : PySem.W.subIn K (.ref E9) (.ref E0) = some false) (xP154 : PySem.W.subIn K (.ref E9) (.ref E1) = some false) (xP155 : PySem.W.subIn K (.ref E9) (.ref E2) = some false) (xP156 : PySem.W.subIn K (.ref E9) (.ref E3) = some false) (xP157 : PySem.W.subIn K (.ref E9) (.ref E4) = some false) (xP158 : PySem.W.subIn K (.ref E9) (.ref E5) = some false) (xP159 : PySem.W.subIn K (.ref E9) (.ref E6) = some true) (xP160 : PySem.W.subIn K (.ref E9) (.ref E7) = some false) (xP161 : PySem.W.subIn K (.ref E9) (.ref E8) = some false) (xP162 : PySem.W.subIn K (.ref E9) (.ref E9) = some true) (xP163 : PySem.W.subIn K (.ref E9) (.ref E10) = some false) (xP164 : PySem.W.subIn K (.ref E9) (.ref E11) = some false) (xP165 : PySem.W.subIn K (.ref E9) (.ref E12) = some false) (xP166 : PySem.W.subIn K (.ref E9) (.ref E13) = some false) (xP167 : PySem.W.subIn K (.ref E9) (.ref E14) = some false) (xP168 : PySem.W.subIn K (.ref E9) (.ref E15) = some false) (xP169 : PySem.W.subIn K (.ref E9) (.ref E16) = some false) (xP170 : PySem.W.subIn K (.ref E10) (.ref E0) = some false) (xP171 : PySem.W.subIn K (.ref E10) (.ref E1) = some false) (xP172 : PySem.W.subIn K (.ref E10) (.ref E2) = some false) (xP173 : PySem.W.subIn K (.ref E10) (.ref E3) = some false) (xP174 : PySem.W.subIn K (.ref E10) (.ref E4) = some false) (xP175 : PySem.W.subIn K (.ref E10) (.ref E5) = some false) (xP176 : PySem.W.subIn K (.ref E10) (.ref E6) = some true) (xP177 : PySem.W.subIn K (.ref E10) (.ref E7) = some false) (xP178 : PySem.W.subIn K (.ref E10) (.ref E8) = some false) (xP179 : PySem.W.subIn K (.ref E10) (.ref E9) = some false) (xP180 : PySem.W.subIn K (.ref E10) (.ref E10) = some true) (xP181 : PySem.W.subIn K (.ref E10) (.ref E11) = some false) (xP182 : PySem.W.subIn K (.ref E10) (.ref E12) = some false) (xP183 : PySem.W.subIn K (.ref E10) (.ref E13) = some false) (xP184 : PySem.W.subIn K (.ref E10) (.ref E14) = some false) (xP185 : PySem.W.subIn K (.ref E10) (.ref E15) = some false) (xP186 : PySem.W.subIn K (.ref E10) (.ref E16) = some false) (xP187 : PySem.W.subIn K (.ref E11) (.ref E0) = some false) (xP188 : PySem.W.subIn K (.ref E11) (.ref E1) = some false) (xP189 : PySem.W.subIn K (.ref E11) (.ref E2) = some false) (xP190 : PySem.W.subIn K (.ref E11) (.ref E3) = some false) (xP191 : PySem.W.subIn K (.ref E11) (.ref E4) = some false) (xP192 : PySem.W.subIn K (.ref E11) (.ref E5) = some false) (xP193 : PySem.W.subIn K (.ref E11) (.ref E6) = some true) (xP194 : PySem.W.subIn K (.ref E11) (.ref E7) = some false) (xP195 : PySem.W.subIn K (.ref E11) (.ref E8) = some false) (xP196 : PySem.W.subIn K (.ref E11) (.ref E9) = some false) (xP197 : PySem.W.subIn K (.ref E11) (.ref E10) = some false) (xP198 : PySem.W.subIn K (.ref E11) (.ref E11) = some true) (xP199 : PySem.W.subIn K (.ref E11) (.ref E12) = some false) (xP200 : PySem.W.subIn K (.ref E11) (.ref E13) = some false) (xP201 : PySem.W.subIn K (.ref E11) (.ref E14) = some false) (xP202 : PySem.W.subIn K (.ref E11) (.ref E15) = some false) (xP203 : PySem.W.subIn K (.ref E11) (.ref E16) = some false) (xP204 : PySem.W.subIn K (.ref E12) (.ref E0) = some false) (xP205 : PySem.W.subIn K (.ref E12) (.ref E1) = some false) (xP206 : PySem.W.subIn K (.ref E12) (.ref E2) = some false) (xP207 : PySem.W.subIn K (.ref E12) (.ref E3) = some false) (xP208 : PySem.W.subIn K (.ref E12) (.ref E4) = some false) (xP209 : PySem.W.subIn K (.ref E12) (.ref E5) = some false) (xP210 : PySem.W.subIn K (.ref E12) (.ref E6) = some true) (xP211 : PySem.W.subIn K (.ref E12) (.ref E7) = some false) (xP212 : PySem.W.subIn K (.ref E12) (.ref E8) = some false) (xP213 : PySem.W.subIn K (.ref E12) (.ref E9) = some false) (xP214 : PySem.W.subIn K (.ref E12) (.ref E10) = some false) (xP215 : PySem.W.subIn K (.ref E12) (.ref E11) = some false) (xP216 : PySem.W.subIn K (.ref E12) (.ref E12) = some true) (xP217 : PySem.W.subIn K (.ref E12) (.ref E13) = some false) (xP218 : PySem.W.subIn K (.ref E12) (.ref E14) = some false) (xP219 : PySem.W.subIn K (.ref E12) (.ref E15) = some false) (xP220 : PySem.W.subIn K (.ref E12) (.ref E16) = some false) (xP221 : PySem.W.subIn K (.ref E13) (.ref E0) = some false) (xP222 : PySem.W.subIn K (.ref E13) (.ref E1) = some false) (xP223 : PySem.W.subIn K (.ref E13) (.ref E2) = some false) (xP224 : PySem.W.subIn K (.ref E13) (.ref E3) = some false) (xP225 : PySem.W.subIn K (.ref E13) (.ref E4) = some false) (xP226 : PySem.W.subIn K (.ref E13) (.ref E5) = some false) (xP227 : PySem.W.subIn K (.ref E13) (.ref E6) = some true) (xP228 : PySem.W.subIn K (.ref E13) (.ref E7) = some false) (xP229 : PySem.W.subIn K (.ref E13) (.ref E8) = some false) (xP230 : PySem.W.subIn K (.ref E13) (.ref E9) = some false) (xP231 : PySem.W.subIn K (.ref E13) (.ref E10) = some false) (xP232 : PySem.W.subIn K (.ref E13) (.ref E11) = some false) (xP233 : PySem.W.subIn K (.ref E13) (.ref E12) = some false) (xP234 : PySem.W.subIn K (.ref E13) (.ref E13) = some true) (xP235 : PySem.W.subIn K (.ref E13) (.ref E14) = some false) (xP236 : PySem.W.subIn K (.ref E13) (.ref E15) = some false) (xP237 : PySem.W.subIn K (.ref E13) (.ref E16) = some false) (xP238 : PySem.W.subIn K (.ref E14) (.ref E0) = some false) (xP239 : PySem.W.subIn K (.ref E14) (.ref E1) = some false) (xP240 : PySem.W.subIn K (.ref E14) (.ref E2) = some false) (xP241 : PySem.W.subIn K (.ref E14) (.ref E3) = some false) (xP242 : PySem.W.subIn K (.ref E14) (.ref E4) = some false) (xP243 : PySem.W.subIn K (.ref E14) (.ref E5) = some false) (xP244 : PySem.W.subIn K (.ref E14) (.ref E6) = some true) (xP245 : PySem.W.subIn K (.ref E14) (.ref E7) = some false) (xP246 : PySem.W.subIn K (.ref E14) (.ref E8) = some false) (xP247 : PySem.W.subIn K (.ref E14) (.ref E9) = some false) (xP248 : PySem.W.subIn K (.ref E14) (.ref E10) = some false) (xP249 : PySem.W.subIn K (.ref E14) (.ref E11) = some false) (xP250 : PySem.W.subIn K (.ref E14) (.ref E12) = some false) (xP251 : PySem.W.subIn K (.ref E14) (.ref E13) = some false) (xP252 : PySem.W.subIn K (.ref E14) (.ref E14) = some true) (xP253 : PySem.W.subIn K (.ref E14) (.ref E15) = some false) (xP254 : PySem.W.subIn K (.ref E14) (.ref E16) = some false) (xP255 : PySem.W.subIn K (.ref E15) (.ref E0) = some false) (xP256 : PySem.W.subIn K (.ref E15) (.ref E1) = some false) (xP257 : PySem.W.subIn K (.ref E15) (.ref E2) = some false) (xP258 : PySem.W.subIn K (.ref E15) (.ref E3) = some false) (xP259 : PySem.W.subIn K (.ref E15) (.ref E4) = some false) (xP260 : PySem.W.subIn K (.ref E15) (.ref E5) = some false) (xP261 : PySem.W.subIn K (.ref E15) (.ref E6) = some true) (xP262 : PySem.W.subIn K (.ref E15) (.ref E7) = some false) (xP263 : PySem.W.subIn K (.ref E15) (.ref E8) = some false) (xP264 : PySem.W.subIn K (.ref E15) (.ref E9) = some false) (xP265 : PySem.W.subIn K (.ref E15) (.ref E10) = some false) (xP266 : PySem.W.subIn K (.ref E15) (.ref E11) = some false) (xP267 : PySem.W.subIn K (.ref E15) (.ref E12) = some false) (xP268 : PySem.W.subIn K (.ref E15) (.ref E13) = some false) (xP269 : PySem.W.subIn K (.ref E15) (.ref E14) = some false) (xP270 : PySem.W.subIn K (.ref E15) (.ref E15) = some true) (xP271 : PySem.W.subIn K (.ref E15) (.ref E16) = some false) (xP272 : PySem.W.subIn K (.ref E16) (.ref E0) = some false) (xP273 : PySem.W.subIn K (.ref E16) (.ref E1) = some false) (xP274 : PySem.W.subIn K (.ref E16) (.ref E2) = some false) (xP275 : PySem.W.subIn K (.ref E16) (.ref E3) = some false) (xP276 : PySem.W.subIn K (.ref E16) (.ref E4) = some false) (xP277 : PySem.W.subIn K (.ref E16) (.ref E5) = some false) (xP278 : PySem.W.subIn K (.ref E16) (.ref E6) = some true) (xP279 : PySem.W.subIn K (.ref E16) (.ref E7) = some false) (xP280 : PySem.W.subIn K (.ref E16) (.ref E8) = some false) (xP281 : PySem.W.subIn K (.ref E16) (.ref E9) = some false) (xP282 : PySem.W.subIn K (.ref E16) (.ref E10) = some false) (xP283 : PySem.W.subIn K (.ref E16) (.ref E11) = some false) (xP284 : PySem.W.subIn K (.ref E16) (.ref E12) = some false) (xP285 : PySem.W.subIn K (.ref E16) (.ref E13) = some false) (xP286 : PySem.W.subIn K (.ref E16) (.ref E14) = some false) (xP287 : PySem.W.subIn K (.ref E16) (.ref E15) = some false) (xP288 : PySem.W.subIn K (.ref E16) (.ref E16) = some true)
    (z1 : PySem.W.nsIn K mainGlobals "ValueError" = some none)
    (z2 : PySem.W.nsIn K mainGlobals "abs" = some none)
    (z3 : PySem.W.nsIn K mainGlobals "isinstance" = some none)
    (z4 : PySem.W.nsIn K mainGlobals "len" = some none)
    (z5 : PySem.W.nsIn K mainGlobals "range" = some none)
    (z6 : PySem.W.nsIn K mainGlobals "repr" = some none)
    : ∃ fd : FuncData, (∀ (s : Shared) (v : Value), BindsTo s fd ⟨[v], []⟩ [("_law_script", v)]) ∧ ∀ base : Heap, K.In base → base.Ns mainGlobals mg → FnG l.prog w K mg base (N + 3) fa fd ["_law_script"] (spA K 1 (g_law (den N))) := by
  have e := hfa.symm.trans (PySem.W.mg_of X G a7)
  cases e
  have T : Fs w K mg := {
    G := { n_ValueError := PySem.W.mg_none_of X G z1, n_abs := PySem.W.mg_none_of X G z2, n_isinstance := PySem.W.mg_none_of X G z3, n_len := PySem.W.mg_none_of X G z4, n_range := PySem.W.mg_none_of X G z5, n_repr := PySem.W.mg_none_of X G z6, x_isa := (isaL_cons (isaF_mk (PySem.W.mg_of X G xa0) (PySem.W.mg_of X G xa0) xs0 xd0 xt0 xP0 xo0) (isaL_cons (isaF_mk (PySem.W.mg_of X G xa0) (PySem.W.mg_of X G xa1) xs1 xd1 xt1 xP1 xo0) (isaL_cons (isaF_mk (PySem.W.mg_of X G xa0) (PySem.W.mg_of X G xa2) xs2 xd2 xt2 xP2 xo0) (isaL_cons (isaF_mk (PySem.W.mg_of X G xa0) (PySem.W.mg_of X G xa3) xs3 xd3 xt3 xP3 xo0) (isaL_cons (isaF_mk (PySem.W.mg_of X G xa0) (PySem.W.mg_of X G xa4) xs4 xd4 xt4 xP4 xo0) (isaL_cons (isaF_mk (PySem.W.mg_of X G xa0) (PySem.W.mg_of X G xa5) xs5 xd5 xt5 xP5 xo0) (isaL_cons (isaF_mk (PySem.W.mg_of X G xa0) (PySem.W.mg_of X G xa6) xs6 xd6 xt6 xP6 xo0) (isaL_cons (isaF_mk (PySem.W.mg_of X G xa0) (PySem.W.mg_of X G xa7) xs7 xd7 xt7 xP7 xo0) (isaL_cons (isaF_mk (PySem.W.mg_of X G xa0) (PySem.W.mg_of X G xa8) xs8 xd8 xt8 xP8 xo0) (isaL_cons (isaF_mk (PySem.W.mg_of X G xa0) (PySem.W.mg_of X G xa9) xs9 xd9 xt9 xP9 xo0) (isaL_cons (isaF_mk (PySem.W.mg_of X G xa0) (PySem.W.mg_of X G xa10) xs10 xd10 xt10 xP10 xo0) (isaL_cons (isaF_mk (PySem.W.mg_of X G xa0) (PySem.W.mg_of X G xa11) xs11 xd11 xt11 xP11 xo0) (isaL_cons (isaF_mk (PySem.W.mg_of X G xa0) (PySem.W.mg_of X G xa12) xs12 xd12 xt12 xP12 xo0) (isaL_cons (isaF_mk (PySem.W.mg_of X G xa0) (PySem.W.mg_of X G xa13) xs13 xd13 xt13 xP13 xo0) (isaL_cons (isaF_mk (PySem.W.mg_of X G xa0) (PySem.W.mg_of X G xa14) xs14 xd14 xt14 xP14 xo0) (isaL_cons (isaF_mk (PySem.W.mg_of X G xa0) (PySem.W.mg_of X G xa15) xs15 xd15 xt15 xP15 xo0) (isaL_cons (isaF_mk (PySem.W.mg_of X G xa0) (PySem.W.mg_of X G xa16) xs16 xd16 xt16 xP16 xo0) (isaL_cons (isaF_mk (PySem.W.mg_of X G xa1) (PySem.W.mg_of X G xa0) xs0 xd0 xt0 xP17 xo1) (isaL_cons (isaF_mk (PySem.W.mg_of X G xa1) (PySem.W.mg_of X G xa1) xs1 xd1 xt1 xP18 xo1) (isaL_cons (isaF_mk (PySem.W.mg_of X G xa1) (PySem.W.mg_of X G xa2) xs2 xd2 xt2 xP19 xo1) (isaL_cons (isaF_mk (PySem.W.mg_of X G xa1) (PySem.W.mg_of X G xa3) xs3 xd3 xt3 xP20 xo1) (isaL_cons (isaF_mk (PySem.W.mg_of X G xa1) (PySem.W.mg_of X G xa4) xs4 xd4 xt4 xP21 xo1) (isaL_cons (isaF_mk (PySem.W.mg_of X G xa1) (PySem.W.mg_of X G xa5) xs5 xd5 xt5 xP22 xo1) (isaL_cons (isaF_mk (PySem.W.mg_of X G xa1) (PySem.W.mg_of X G xa6) xs6 xd6 xt6 xP23 xo1) (isaL_cons (isaF_mk (PySem.W.mg_of X G xa1) (PySem.W.mg_of X G xa7) xs7 xd7 xt7 xP24 xo1) (isaL_cons (isaF_mk (PySem.W.mg_of X G xa1) (PySem.W.mg_of X G xa8) xs8 xd8 xt8 xP25 xo1) (isaL_cons (isaF_mk (PySem.W.mg_of X G xa1) (PySem.W.mg_of X G xa9) xs9 xd9 xt9 xP26 xo1) (isaL_cons (isaF_mk (PySem.W.mg_of X G xa1) (PySem.W.mg_of X G xa10) xs10 xd10 xt10 xP27 xo1) (isaL_cons (isaF_mk (PySem.W.mg_of X G xa1) (PySem.W.mg_of X G xa11) xs11 xd11 xt11 xP28 xo1) (isaL_cons (isaF_mk (PySem.W.mg_of X G xa1) (PySem.W.mg_of X G xa12) xs12 xd12 xt12 xP29 xo1) (isaL_cons (isaF_mk (PySem.W.mg_of X G xa1) (PySem.W.mg_of X G xa13) xs13 xd13 xt13 xP30 xo1) (isaL_cons (isaF_mk (PySem.W.mg_of X G xa1) (PySem.W.mg_of X G xa14) xs14 xd14 xt14 xP31 xo1) (isaL_cons (isaF_mk (PySem.W.mg_of X G xa1) (PySem.W.mg_of X G xa15) xs15 xd15 xt15 xP32 xo1) (isaL_cons (isaF_mk (PySem.W.mg_of X G xa1) (PySem.W.mg_of X G xa16) xs16 xd16 xt16 xP33 xo1) (isaL_cons (isaF_mk (PySem.W.mg_of X G xa2) (PySem.W.mg_of X G xa0) xs0 xd0 xt0 xP34 xo2) (isaL_cons (isaF_mk (PySem.W.mg_of X G xa2) (PySem.W.mg_of X G xa1) xs1 xd1 xt1 xP35 xo2) (isaL_cons (isaF_mk (PySem.W.mg_of X G xa2) (PySem.W.mg_of X G xa2) xs2 xd2 xt2 xP36 xo2) (isaL_cons (isaF_mk (PySem.W.mg_of X G xa2) (PySem.W.mg_of X G xa3) xs3 xd3 xt3 xP37 xo2) (isaL_cons (isaF_mk (PySem.W.mg_of X G xa2) (PySem.W.mg_of X G xa4) xs4 xd4 xt4 xP38 xo2) (isaL_cons (isaF_mk (PySem.W.mg_of X G xa2) (PySem.W.mg_of X G xa5) xs5 xd5 xt5 xP39 xo2) (isaL_cons (isaF_mk (PySem.W.mg_of X G xa2) (PySem.W.mg_of X G xa6) xs6 xd6 xt6 xP40 xo2) (isaL_cons (isaF_mk (PySem.W.mg_of X G xa2) (PySem.W.mg_of X G xa7) xs7 xd7 xt7 xP41 xo2) (isaL_cons (isaF_mk (PySem.W.mg_of X G xa2) (PySem.W.mg_of X G xa8) xs8 xd8 xt8 xP42 xo2) (isaL_cons (isaF_mk (PySem.W.mg_of X G xa2) (PySem.W.mg_of X G xa9) xs9 xd9 xt9 xP43 xo2) (isaL_cons (isaF_mk (PySem.W.mg_of X G xa2) (PySem.W.mg_of X G xa10) xs10 xd10 xt10 xP44 xo2) (isaL_cons (isaF_mk (PySem.W.mg_of X G xa2) (PySem.W.mg_of X G xa11) xs11 xd11 xt11 xP45 xo2) (isaL_cons (isaF_mk (PySem.W.mg_of X G xa2) (PySem.W.mg_of X G xa12) xs12 xd12 xt12 xP46 xo2) (isaL_cons (isaF_mk (PySem.W.mg_of X G xa2) (PySem.W.mg_of X G xa13) xs13 xd13 xt13 xP47 xo2) (isaL_cons (isaF_mk (PySem.W.mg_of X G xa2) (PySem.W.mg_of X G xa14) xs14 xd14 xt14 xP48 xo2) (isaL_cons (isaF_mk (PySem.W.mg_of X G xa2) (PySem.W.mg_of X G xa15) xs15 xd15 xt15 xP49 xo2) (isaL_cons (isaF_mk (PySem.W.mg_of X G xa2) (PySem.W.mg_of X G xa16) xs16 xd16 xt16 xP50 xo2) (isaL_cons (isaF_mk (PySem.W.mg_of X G xa3) (PySem.W.mg_of X G xa0) xs0 xd0 xt0 xP51 xo3) (isaL_cons (isaF_mk (PySem.W.mg_of X G xa3) (PySem.W.mg_of X G xa1) xs1 xd1 xt1 xP52 xo3) (isaL_cons (isaF_mk (PySem.W.mg_of X G xa3) (PySem.W.mg_of X G xa2) xs2 xd2 xt2 xP53 xo3) (isaL_cons (isaF_mk (PySem.W.mg_of X G xa3) (PySem.W.mg_of X G xa3) xs3 xd3 xt3 xP54 xo3) (isaL_cons (isaF_mk (PySem.W.mg_of X G xa3) (PySem.W.mg_of X G xa4) xs4 xd4 xt4 xP55 xo3) (isaL_cons (isaF_mk (PySem.W.mg_of X G xa3) (PySem.W.mg_of X G xa5) xs5 xd5 xt5 xP56 xo3) (isaL_cons (isaF_mk (PySem.W.mg_of X G xa3) (PySem.W.mg_of X G xa6) xs6 xd6 xt6 xP57 xo3) (isaL_cons (isaF_mk (PySem.W.mg_of X G xa3) (PySem.W.mg_of X G xa7) xs7 xd7 xt7 xP58 xo3) (isaL_cons (isaF_mk (PySem.W.mg_of X G xa3) (PySem.W.mg_of X G xa8) xs8 xd8 xt8 xP59 xo3) (isaL_cons (isaF_mk (PySem.W.mg_of X G xa3) (PySem.W.mg_of X G xa9) xs9 xd9 xt9 xP60 xo3) (isaL_cons (isaF_mk (PySem.W.mg_of X G xa3) (PySem.W.mg_of X G xa10) xs10 xd10 xt10 xP61 xo3) (isaL_cons (isaF_mk (PySem.W.mg_of X G xa3) (PySem.W.mg_of X G xa11) xs11 xd11 xt11 xP62 xo3) (isaL_cons (isaF_mk (PySem.W.mg_of X G xa3) (PySem.W.mg_of X G xa12) xs12 xd12 xt12 xP63 xo3) (isaL_cons (isaF_mk (PySem.W.mg_of X G xa3) (PySem.W.mg_of X G xa13) xs13 xd13 xt13 xP64 xo3) (isaL_cons (isaF_mk (PySem.W.mg_of X G xa3) (PySem.W.mg_of X G xa14) xs14 xd14 xt14 xP65 xo3) (isaL_cons (isaF_mk (PySem.W.mg_of X G xa3) (PySem.W.mg_of X G xa15) xs15 xd15 xt15 xP66 xo3) (isaL_cons (isaF_mk (PySem.W.mg_of X G xa3) (PySem.W.mg_of X G xa16) xs16 xd16 xt16 xP67 xo3) (isaL_cons (isaF_mk (PySem.W.mg_of X G xa4) (PySem.W.mg_of X G xa0) xs0 xd0 xt0 xP68 xo4) (isaL_cons (isaF_mk (PySem.W.mg_of X G xa4) (PySem.W.mg_of X G xa1) xs1 xd1 xt1 xP69 xo4) (isaL_cons (isaF_mk (PySem.W.mg_of X G xa4) (PySem.W.mg_of X G xa2) xs2 xd2 xt2 xP70 xo4) (isaL_cons (isaF_mk (PySem.W.mg_of X G xa4) (PySem.W.mg_of X G xa3) xs3 xd3 xt3 xP71 xo4) (isaL_cons (isaF_mk (PySem.W.mg_of X G xa4) (PySem.W.mg_of X G xa4) xs4 xd4 xt4 xP72 xo4) (isaL_cons (isaF_mk (PySem.W.mg_of X G xa4) (PySem.W.mg_of X G xa5) xs5 xd5 xt5 xP73 xo4) (isaL_cons (isaF_mk (PySem.W.mg_of X G xa4) (PySem.W.mg_of X G xa6) xs6 xd6 xt6 xP74 xo4) (isaL_cons (isaF_mk (PySem.W.mg_of X G xa4) (PySem.W.mg_of X G xa7) xs7 xd7 xt7 xP75 xo4) (isaL_cons (isaF_mk (PySem.W.mg_of X G xa4) (PySem.W.mg_of X G xa8) xs8 xd8 xt8 xP76 xo4) (isaL_cons (isaF_mk (PySem.W.mg_of X G xa4) (PySem.W.mg_of X G xa9) xs9 xd9 xt9 xP77 xo4) (isaL_cons (isaF_mk (PySem.W.mg_of X G xa4) (PySem.W.mg_of X G xa10) xs10 xd10 xt10 xP78 xo4) (isaL_cons (isaF_mk (PySem.W.mg_of X G xa4) (PySem.W.mg_of X G xa11) xs11 xd11 xt11 xP79 xo4) (isaL_cons (isaF_mk (PySem.W.mg_of X G xa4) (PySem.W.mg_of X G xa12) xs12 xd12 xt12 xP80 xo4) (isaL_cons (isaF_mk (PySem.W.mg_of X G xa4) (PySem.W.mg_of X G xa13) xs13 xd13 xt13 xP81 xo4) (isaL_cons (isaF_mk (PySem.W.mg_of X G xa4) (PySem.W.mg_of X G xa14) xs14 xd14 xt14 xP82 xo4) (isaL_cons (isaF_mk (PySem.W.mg_of X G xa4) (PySem.W.mg_of X G xa15) xs15 xd15 xt15 xP83 xo4) (isaL_cons (isaF_mk (PySem.W.mg_of X G xa4) (PySem.W.mg_of X G xa16) xs16 xd16 xt16 xP84 xo4) (isaL_cons (isaF_mk (PySem.W.mg_of X G xa5) (PySem.W.mg_of X G xa0) xs0 xd0 xt0 xP85 xo5) (isaL_cons (isaF_mk (PySem.W.mg_of X G xa5) (PySem.W.mg_of X G xa1) xs1 xd1 xt1 xP86 xo5) (isaL_cons (isaF_mk (PySem.W.mg_of X G xa5) (PySem.W.mg_of X G xa2) xs2 xd2 xt2 xP87 xo5) (isaL_cons (isaF_mk (PySem.W.mg_of X G xa5) (PySem.W.mg_of X G xa3) xs3 xd3 xt3 xP88 xo5) (isaL_cons (isaF_mk (PySem.W.mg_of X G xa5) (PySem.W.mg_of X G xa4) xs4 xd4 xt4 xP89 xo5) (isaL_cons (isaF_mk (PySem.W.mg_of X G xa5) (PySem.W.mg_of X G xa5) xs5 xd5 xt5 xP90 xo5) (isaL_cons (isaF_mk (PySem.W.mg_of X G xa5) (PySem.W.mg_of X G xa6) xs6 xd6 xt6 xP91 xo5) (isaL_cons (isaF_mk (PySem.W.mg_of X G xa5) (PySem.W.mg_of X G xa7) xs7 xd7 xt7 xP92 xo5) (isaL_cons (isaF_mk (PySem.W.mg_of X G xa5) (PySem.W.mg_of X G xa8) xs8 xd8 xt8 xP93 xo5) (isaL_cons (isaF_mk (PySem.W.mg_of X G xa5) (PySem.W.mg_of X G xa9) xs9 xd9 xt9 xP94 xo5) (isaL_cons (isaF_mk (PySem.W.mg_of X G xa5) (PySem.W.mg_of X G xa10) xs10 xd10 xt10 xP95 xo5) (isaL_cons (isaF_mk (PySem.W.mg_of X G xa5) (PySem.W.mg_of X G xa11) xs11 xd11 xt11 xP96 xo5) (isaL_cons (isaF_mk (PySem.W.mg_of X G xa5) (PySem.W.mg_of X G xa12) xs12 xd12 xt12 xP97 xo5) (isaL_cons (isaF_mk (PySem.W.mg_of X G xa5) (PySem.W.mg_of X G xa13) xs13 xd13 xt13 xP98 xo5) (isaL_cons (isaF_mk (PySem.W.mg_of X G xa5) (PySem.W.mg_of X G xa14) xs14 xd14 xt14 xP99 xo5) (isaL_cons (isaF_mk (PySem.W.mg_of X G xa5) (PySem.W.mg_of X G xa15) xs15 xd15 xt15 xP100 xo5) (isaL_cons (isaF_mk (PySem.W.mg_of X G xa5) (PySem.W.mg_of X G xa16) xs16 xd16 xt16 xP101 xo5) (isaL_cons (isaF_mk (PySem.W.mg_of X G xa6) (PySem.W.mg_of X G xa0) xs0 xd0 xt0 xP102 xo6) (isaL_cons (isaF_mk (PySem.W.mg_of X G xa6) (PySem.W.mg_of X G xa1) xs1 xd1 xt1 xP103 xo6) (isaL_cons (isaF_mk (PySem.W.mg_of X G xa6) (PySem.W.mg_of X G xa2) xs2 xd2 xt2 xP104 xo6) (isaL_cons (isaF_mk (PySem.W.mg_of X G xa6) (PySem.W.mg_of X G xa3) xs3 xd3 xt3 xP105 xo6) (isaL_cons (isaF_mk (PySem.W.mg_of X G xa6) (PySem.W.mg_of X G xa4) xs4 xd4 xt4 xP106 xo6) (isaL_cons (isaF_mk (PySem.W.mg_of X G xa6) (PySem.W.mg_of X G xa5) xs5 xd5 xt5 xP107 xo6) (isaL_cons (isaF_mk (PySem.W.mg_of X G xa6) (PySem.W.mg_of X G xa6) xs6 xd6 xt6 xP108 xo6) (isaL_cons (isaF_mk (PySem.W.mg_of X G xa6) (PySem.W.mg_of X G xa7) xs7 xd7 xt7 xP109 xo6) (isaL_cons (isaF_mk (PySem.W.mg_of X G xa6) (PySem.W.mg_of X G xa8) xs8 xd8 xt8 xP110 xo6) (isaL_cons (isaF_mk (PySem.W.mg_of X G xa6) (PySem.W.mg_of X G xa9) xs9 xd9 xt9 xP111 xo6) (isaL_cons (isaF_mk (PySem.W.mg_of X G xa6) (PySem.W.mg_of X G xa10) xs10 xd10 xt10 xP112 xo6) (isaL_cons (isaF_mk (PySem.W.mg_of X G xa6) (PySem.W.mg_of X G xa11) xs11 xd11 xt11 xP113 xo6) (isaL_cons (isaF_mk (PySem.W.mg_of X G xa6) (PySem.W.mg_of X G xa12) xs12 xd12 xt12 xP114 xo6) (isaL_cons (isaF_mk (PySem.W.mg_of X G xa6) (PySem.W.mg_of X G xa13) xs13 xd13 xt13 xP115 xo6) (isaL_cons (isaF_mk (PySem.W.mg_of X G xa6) (PySem.W.mg_of X G xa14) xs14 xd14 xt14 xP116 xo6) (isaL_cons (isaF_mk (PySem.W.mg_of X G xa6) (PySem.W.mg_of X G xa15) xs15 xd15 xt15 xP117 xo6) (isaL_cons (isaF_mk (PySem.W.mg_of X G xa6) (PySem.W.mg_of X G xa16) xs16 xd16 xt16 xP118 xo6) (isaL_cons (isaF_mk (PySem.W.mg_of X G xa7) (PySem.W.mg_of X G xa0) xs0 xd0 xt0 xP119 xo7) (isaL_cons (isaF_mk (PySem.W.mg_of X G xa7) (PySem.W.mg_of X G xa1) xs1 xd1 xt1 xP120 xo7) (isaL_cons (isaF_mk (PySem.W.mg_of X G xa7) (PySem.W.mg_of X G xa2) xs2 xd2 xt2 xP121 xo7) (isaL_cons (isaF_mk (PySem.W.mg_of X G xa7) (PySem.W.mg_of X G xa3) xs3 xd3 xt3 xP122 xo7) (isaL_cons (isaF_mk (PySem.W.mg_of X G xa7) (PySem.W.mg_of X G xa4) xs4 xd4 xt4 xP123 xo7) (isaL_cons (isaF_mk (PySem.W.mg_of X G xa7) (PySem.W.mg_of X G xa5) xs5 xd5 xt5 xP124 xo7) (isaL_cons (isaF_mk (PySem.W.mg_of X G xa7) (PySem.W.mg_of X G xa6) xs6 xd6 xt6 xP125 xo7) (isaL_cons (isaF_mk (PySem.W.mg_of X G xa7) (PySem.W.mg_of X G xa7) xs7 xd7 xt7 xP126 xo7) (isaL_cons (isaF_mk (PySem.W.mg_of X G xa7) (PySem.W.mg_of X G xa8) xs8 xd8 xt8 xP127 xo7) (isaL_cons (isaF_mk (PySem.W.mg_of X G xa7) (PySem.W.mg_of X G xa9) xs9 xd9 xt9 xP128 xo7) (isaL_cons (isaF_mk (PySem.W.mg_of X G xa7) (PySem.W.mg_of X G xa10) xs10 xd10 xt10 xP129 xo7) (isaL_cons (isaF_mk (PySem.W.mg_of X G xa7) (PySem.W.mg_of X G xa11) xs11 xd11 xt11 xP130 xo7) (isaL_cons (isaF_mk (PySem.W.mg_of X G xa7) (PySem.W.mg_of X G xa12) xs12 xd12 xt12 xP131 xo7) (isaL_cons (isaF_mk (PySem.W.mg_of X G xa7) (PySem.W.mg_of X G xa13) xs13 xd13 xt13 xP132 xo7) (isaL_cons (isaF_mk (PySem.W.mg_of X G xa7) (PySem.W.mg_of X G xa14) xs14 xd14 xt14 xP133 xo7) (isaL_cons (isaF_mk (PySem.W.mg_of X G xa7) (PySem.W.mg_of X G xa15) xs15 xd15 xt15 xP134 xo7) (isaL_cons (isaF_mk (PySem.W.mg_of X G xa7) (PySem.W.mg_of X G xa16) xs16 xd16 xt16 xP135 xo7) (isaL_cons (isaF_mk (PySem.W.mg_of X G xa8) (PySem.W.mg_of X G xa0) xs0 xd0 xt0 xP136 xo8) (isaL_cons (isaF_mk (PySem.W.mg_of X G xa8) (PySem.W.mg_of X G xa1) xs1 xd1 xt1 xP137 xo8) (isaL_cons (isaF_mk (PySem.W.mg_of X G xa8) (PySem.W.mg_of X G xa2) xs2 xd2 xt2 xP138 xo8) (isaL_cons (isaF_mk (PySem.W.mg_of X G xa8) (PySem.W.mg_of X G xa3) xs3 xd3 xt3 xP139 xo8) (isaL_cons (isaF_mk (PySem.W.mg_of X G xa8) (PySem.W.mg_of X G xa4) xs4 xd4 xt4 xP140 xo8) (isaL_cons (isaF_mk (PySem.W.mg_of X G xa8) (PySem.W.mg_of X G xa5) xs5 xd5 xt5 xP141 xo8) (isaL_cons (isaF_mk (PySem.W.mg_of X G xa8) (PySem.W.mg_of X G xa6) xs6 xd6 xt6 xP142 xo8) (isaL_cons (isaF_mk (PySem.W.mg_of X G xa8) (PySem.W.mg_of X G xa7) xs7 xd7 xt7 xP143 xo8) (isaL_cons (isaF_mk (PySem.W.mg_of X G xa8) (PySem.W.mg_of X G xa8) xs8 xd8 xt8 xP144 xo8) (isaL_cons (isaF_mk (PySem.W.mg_of X G xa8) (PySem.W.mg_of X G xa9) xs9 xd9 xt9 xP145 xo8) (isaL_cons (isaF_mk (PySem.W.mg_of X G xa8) (PySem.W.mg_of X G xa10) xs10 xd10 xt10 xP146 xo8) (isaL_cons (isaF_mk (PySem.W.mg_of X G xa8) (PySem.W.mg_of X G xa11) xs11 xd11 xt11 xP147 xo8) (isaL_cons (isaF_mk (PySem.W.mg_of X G xa8) (PySem.W.mg_of X G xa12) xs12 xd12 xt12 xP148 xo8) (isaL_cons (isaF_mk (PySem.W.mg_of X G xa8) (PySem.W.mg_of X G xa13) xs13 xd13 xt13 xP149 xo8) (isaL_cons (isaF_mk (PySem.W.mg_of X G xa8) (PySem.W.mg_of X G xa14) xs14 xd14 xt14 xP150 xo8) (isaL_cons (isaF_mk (PySem.W.mg_of X G xa8) (PySem.W.mg_of X G xa15) xs15 xd15 xt15 xP151 xo8) (isaL_cons (isaF_mk (PySem.W.mg_of X G xa8) (PySem.W.mg_of X G xa16) xs16 xd16 xt16 xP152 xo8) (isaL_cons (isaF_mk (PySem.W.mg_of X G xa9) (PySem.W.mg_of X G xa0) xs0 xd0 xt0 xP153 xo9) (isaL_cons (isaF_mk (PySem.W.mg_of X G xa9) (PySem.W.mg_of X G xa1) xs1 xd1 xt1 xP154 xo9) (isaL_cons (isaF_mk (PySem.W.mg_of X G xa9) (PySem.W.mg_of X G xa2) xs2 xd2 xt2 xP155 xo9) (isaL_cons (isaF_mk (PySem.W.mg_of X G xa9) (PySem.W.mg_of X G xa3) xs3 xd3 xt3 xP156 xo9) (isaL_cons (isaF_mk (PySem.W.mg_of X G xa9) (PySem.W.mg_of X G xa4) xs4 xd4 xt4 xP157 xo9) (isaL_cons (isaF_mk (PySem.W.mg_of X G xa9) (PySem.W.mg_of X G xa5) xs5 xd5 xt5 xP158 xo9) (isaL_cons (isaF_mk (PySem.W.mg_of X G xa9) (PySem.W.mg_of X G xa6) xs6 xd6 xt6 xP159 xo9) (isaL_cons (isaF_mk (PySem.W.mg_of X G xa9) (PySem.W.mg_of X G xa7) xs7 xd7 xt7 xP160 xo9) (isaL_cons (isaF_mk (PySem.W.mg_of X G xa9) (PySem.W.mg_of X G xa8) xs8 xd8 xt8 xP161 xo9) (isaL_cons (isaF_mk (PySem.W.mg_of X G xa9) (PySem.W.mg_of X G xa9) xs9 xd9 xt9 xP162 xo9) (isaL_cons (isaF_mk (PySem.W.mg_of X G xa9) (PySem.W.mg_of X G xa10) xs10 xd10 xt10 xP163 xo9) (isaL_cons (isaF_mk (PySem.W.mg_of X G xa9) (PySem.W.mg_of X G xa11) xs11 xd11 xt11 xP164 xo9) (isaL_cons (isaF_mk (PySem.W.mg_of X G xa9) (PySem.W.mg_of X G xa12) xs12 xd12 xt12 xP165 xo9) (isaL_cons (isaF_mk (PySem.W.mg_of X G xa9) (PySem.W.mg_of X G xa13) xs13 xd13 xt13 xP166 xo9) (isaL_cons (isaF_mk (PySem.W.mg_of X G xa9) (PySem.W.mg_of X G xa14) xs14 xd14 xt14 xP167 xo9) (isaL_cons (isaF_mk (PySem.W.mg_of X G xa9) (PySem.W.mg_of X G xa15) xs15 xd15 xt15 xP168 xo9) (isaL_cons (isaF_mk (PySem.W.mg_of X G xa9) (PySem.W.mg_of X G xa16) xs16 xd16 xt16 xP169 xo9) (isaL_cons (isaF_mk (PySem.W.mg_of X G xa10) (PySem.W.mg_of X G xa0) xs0 xd0 xt0 xP170 xo10) (isaL_cons (isaF_mk (PySem.W.mg_of X G xa10) (PySem.W.mg_of X G xa1) xs1 xd1 xt1 xP171 xo10) (isaL_cons (isaF_mk (PySem.W.mg_of X G xa10) (PySem.W.mg_of X G xa2) xs2 xd2 xt2 xP172 xo10) (isaL_cons (isaF_mk (PySem.W.mg_of X G xa10) (PySem.W.mg_of X G xa3) xs3 xd3 xt3 xP173 xo10) (isaL_cons (isaF_mk (PySem.W.mg_of X G xa10) (PySem.W.mg_of X G xa4) xs4 xd4 xt4 xP174 xo10) (isaL_cons (isaF_mk (PySem.W.mg_of X G xa10) (PySem.W.mg_of X G xa5) xs5 xd5 xt5 xP175 xo10) (isaL_cons (isaF_mk (PySem.W.mg_of X G xa10) (PySem.W.mg_of X G xa6) xs6 xd6 xt6 xP176 xo10) (isaL_cons (isaF_mk (PySem.W.mg_of X G xa10) (PySem.W.mg_of X G xa7) xs7 xd7 xt7 xP177 xo10) (isaL_cons (isaF_mk (PySem.W.mg_of X G xa10) (PySem.W.mg_of X G xa8) xs8 xd8 xt8 xP178 xo10) (isaL_cons (isaF_mk (PySem.W.mg_of X G xa10) (PySem.W.mg_of X G xa9) xs9 xd9 xt9 xP179 xo10) (isaL_cons (isaF_mk (PySem.W.mg_of X G xa10) (PySem.W.mg_of X G xa10) xs10 xd10 xt10 xP180 xo10) (isaL_cons (isaF_mk (PySem.W.mg_of X G xa10) (PySem.W.mg_of X G xa11) xs11 xd11 xt11 xP181 xo10) (isaL_cons (isaF_mk (PySem.W.mg_of X G xa10) (PySem.W.mg_of X G xa12) xs12 xd12 xt12 xP182 xo10) (isaL_cons (isaF_mk (PySem.W.mg_of X G xa10) (PySem.W.mg_of X G xa13) xs13 xd13 xt13 xP183 xo10) (isaL_cons (isaF_mk (PySem.W.mg_of X G xa10) (PySem.W.mg_of X G xa14) xs14 xd14 xt14 xP184 xo10) (isaL_cons (isaF_mk (PySem.W.mg_of X G xa10) (PySem.W.mg_of X G xa15) xs15 xd15 xt15 xP185 xo10) (isaL_cons (isaF_mk (PySem.W.mg_of X G xa10) (PySem.W.mg_of X G xa16) xs16 xd16 xt16 xP186 xo10) (isaL_cons (isaF_mk (PySem.W.mg_of X G xa11) (PySem.W.mg_of X G xa0) xs0 xd0 xt0 xP187 xo11) (isaL_cons (isaF_mk (PySem.W.mg_of X G xa11) (PySem.W.mg_of X G xa1) xs1 xd1 xt1 xP188 xo11) (isaL_cons (isaF_mk (PySem.W.mg_of X G xa11) (PySem.W.mg_of X G xa2) xs2 xd2 xt2 xP189 xo11) (isaL_cons (isaF_mk (PySem.W.mg_of X G xa11) (PySem.W.mg_of X G xa3) xs3 xd3 xt3 xP190 xo11) (isaL_cons (isaF_mk (PySem.W.mg_of X G xa11) (PySem.W.mg_of X G xa4) xs4 xd4 xt4 xP191 xo11) (isaL_cons (isaF_mk (PySem.W.mg_of X G xa11) (PySem.W.mg_of X G xa5) xs5 xd5 xt5 xP192 xo11) (isaL_cons (isaF_mk (PySem.W.mg_of X G xa11) (PySem.W.mg_of X G xa6) xs6 xd6 xt6 xP193 xo11) (isaL_cons (isaF_mk (PySem.W.mg_of X G xa11) (PySem.W.mg_of X G xa7) xs7 xd7 xt7 xP194 xo11) (isaL_cons (isaF_mk (PySem.W.mg_of X G xa11) (PySem.W.mg_of X G xa8) xs8 xd8 xt8 xP195 xo11) (isaL_cons (isaF_mk (PySem.W.mg_of X G xa11) (PySem.W.mg_of X G xa9) xs9 xd9 xt9 xP196 xo11) (isaL_cons (isaF_mk (PySem.W.mg_of X G xa11) (PySem.W.mg_of X G xa10) xs10 xd10 xt10 xP197 xo11) (isaL_cons (isaF_mk (PySem.W.mg_of X G xa11) (PySem.W.mg_of X G xa11) xs11 xd11 xt11 xP198 xo11) (isaL_cons (isaF_mk (PySem.W.mg_of X G xa11) (PySem.W.mg_of X G xa12) xs12 xd12 xt12 xP199 xo11) (isaL_cons (isaF_mk (PySem.W.mg_of X G xa11) (PySem.W.mg_of X G xa13) xs13 xd13 xt13 xP200 xo11) (isaL_cons (isaF_mk (PySem.W.mg_of X G xa11) (PySem.W.mg_of X G xa14) xs14 xd14 xt14 xP201 xo11) (isaL_cons (isaF_mk (PySem.W.mg_of X G xa11) (PySem.W.mg_of X G xa15) xs15 xd15 xt15 xP202 xo11) (isaL_cons (isaF_mk (PySem.W.mg_of X G xa11) (PySem.W.mg_of X G xa16) xs16 xd16 xt16 xP203 xo11) (isaL_cons (isaF_mk (PySem.W.mg_of X G xa12) (PySem.W.mg_of X G xa0) xs0 xd0 xt0 xP204 xo12) (isaL_cons (isaF_mk (PySem.W.mg_of X G xa12) (PySem.W.mg_of X G xa1) xs1 xd1 xt1 xP205 xo12) (isaL_cons (isaF_mk (PySem.W.mg_of X G xa12) (PySem.W.mg_of X G xa2) xs2 xd2 xt2 xP206 xo12) (isaL_cons (isaF_mk (PySem.W.mg_of X G xa12) (PySem.W.mg_of X G xa3) xs3 xd3 xt3 xP207 xo12) (isaL_cons (isaF_mk (PySem.W.mg_of X G xa12) (PySem.W.mg_of X G xa4) xs4 xd4 xt4 xP208 xo12) (isaL_cons (isaF_mk (PySem.W.mg_of X G xa12) (PySem.W.mg_of X G xa5) xs5 xd5 xt5 xP209 xo12) (isaL_cons (isaF_mk (PySem.W.mg_of X G xa12) (PySem.W.mg_of X G xa6) xs6 xd6 xt6 xP210 xo12) (isaL_cons (isaF_mk (PySem.W.mg_of X G xa12) (PySem.W.mg_of X G xa7) xs7 xd7 xt7 xP211 xo12) (isaL_cons (isaF_mk (PySem.W.mg_of X G xa12) (PySem.W.mg_of X G xa8) xs8 xd8 xt8 xP212 xo12) (isaL_cons (isaF_mk (PySem.W.mg_of X G xa12) (PySem.W.mg_of X G xa9) xs9 xd9 xt9 xP213 xo12) (isaL_cons (isaF_mk (PySem.W.mg_of X G xa12) (PySem.W.mg_of X G xa10) xs10 xd10 xt10 xP214 xo12) (isaL_cons (isaF_mk (PySem.W.mg_of X G xa12) (PySem.W.mg_of X G xa11) xs11 xd11 xt11 xP215 xo12) (isaL_cons (isaF_mk (PySem.W.mg_of X G xa12) (PySem.W.mg_of X G xa12) xs12 xd12 xt12 xP216 xo12) (isaL_cons (isaF_mk (PySem.W.mg_of X G xa12) (PySem.W.mg_of X G xa13) xs13 xd13 xt13 xP217 xo12) (isaL_cons (isaF_mk (PySem.W.mg_of X G xa12) (PySem.W.mg_of X G xa14) xs14 xd14 xt14 xP218 xo12) (isaL_cons (isaF_mk (PySem.W.mg_of X G xa12) (PySem.W.mg_of X G xa15) xs15 xd15 xt15 xP219 xo12) (isaL_cons (isaF_mk (PySem.W.mg_of X G xa12) (PySem.W.mg_of X G xa16) xs16 xd16 xt16 xP220 xo12) (isaL_cons (isaF_mk (PySem.W.mg_of X G xa13) (PySem.W.mg_of X G xa0) xs0 xd0 xt0 xP221 xo13) (isaL_cons (isaF_mk (PySem.W.mg_of X G xa13) (PySem.W.mg_of X G xa1) xs1 xd1 xt1 xP222 xo13) (isaL_cons (isaF_mk (PySem.W.mg_of X G xa13) (PySem.W.mg_of X G xa2) xs2 xd2 xt2 xP223 xo13) (isaL_cons (isaF_mk (PySem.W.mg_of X G xa13) (PySem.W.mg_of X G xa3) xs3 xd3 xt3 xP224 xo13) (isaL_cons (isaF_mk (PySem.W.mg_of X G xa13) (PySem.W.mg_of X G xa4) xs4 xd4 xt4 xP225 xo13) (isaL_cons (isaF_mk (PySem.W.mg_of X G xa13) (PySem.W.mg_of X G xa5) xs5 xd5 xt5 xP226 xo13) (isaL_cons (isaF_mk (PySem.W.mg_of X G xa13) (PySem.W.mg_of X G xa6) xs6 xd6 xt6 xP227 xo13) (isaL_cons (isaF_mk (PySem.W.mg_of X G xa13) (PySem.W.mg_of X G xa7) xs7 xd7 xt7 xP228 xo13) (isaL_cons (isaF_mk (PySem.W.mg_of X G xa13) (PySem.W.mg_of X G xa8) xs8 xd8 xt8 xP229 xo13) (isaL_cons (isaF_mk (PySem.W.mg_of X G xa13) (PySem.W.mg_of X G xa9) xs9 xd9 xt9 xP230 xo13) (isaL_cons (isaF_mk (PySem.W.mg_of X G xa13) (PySem.W.mg_of X G xa10) xs10 xd10 xt10 xP231 xo13) (isaL_cons (isaF_mk (PySem.W.mg_of X G xa13) (PySem.W.mg_of X G xa11) xs11 xd11 xt11 xP232 xo13) (isaL_cons (isaF_mk (PySem.W.mg_of X G xa13) (PySem.W.mg_of X G xa12) xs12 xd12 xt12 xP233 xo13) (isaL_cons (isaF_mk (PySem.W.mg_of X G xa13) (PySem.W.mg_of X G xa13) xs13 xd13 xt13 xP234 xo13) (isaL_cons (isaF_mk (PySem.W.mg_of X G xa13) (PySem.W.mg_of X G xa14) xs14 xd14 xt14 xP235 xo13) (isaL_cons (isaF_mk (PySem.W.mg_of X G xa13) (PySem.W.mg_of X G xa15) xs15 xd15 xt15 xP236 xo13) (isaL_cons (isaF_mk (PySem.W.mg_of X G xa13) (PySem.W.mg_of X G xa16) xs16 xd16 xt16 xP237 xo13) (isaL_cons (isaF_mk (PySem.W.mg_of X G xa14) (PySem.W.mg_of X G xa0) xs0 xd0 xt0 xP238 xo14) (isaL_cons (isaF_mk (PySem.W.mg_of X G xa14) (PySem.W.mg_of X G xa1) xs1 xd1 xt1 xP239 xo14) (isaL_cons (isaF_mk (PySem.W.mg_of X G xa14) (PySem.W.mg_of X G xa2) xs2 xd2 xt2 xP240 xo14) (isaL_cons (isaF_mk (PySem.W.mg_of X G xa14) (PySem.W.mg_of X G xa3) xs3 xd3 xt3 xP241 xo14) (isaL_cons (isaF_mk (PySem.W.mg_of X G xa14) (PySem.W.mg_of X G xa4) xs4 xd4 xt4 xP242 xo14) (isaL_cons (isaF_mk (PySem.W.mg_of X G xa14) (PySem.W.mg_of X G xa5) xs5 xd5 xt5 xP243 xo14) (isaL_cons (isaF_mk (PySem.W.mg_of X G xa14) (PySem.W.mg_of X G xa6) xs6 xd6 xt6 xP244 xo14) (isaL_cons (isaF_mk (PySem.W.mg_of X G xa14) (PySem.W.mg_of X G xa7) xs7 xd7 xt7 xP245 xo14) (isaL_cons (isaF_mk (PySem.W.mg_of X G xa14) (PySem.W.mg_of X G xa8) xs8 xd8 xt8 xP246 xo14) (isaL_cons (isaF_mk (PySem.W.mg_of X G xa14) (PySem.W.mg_of X G xa9) xs9 xd9 xt9 xP247 xo14) (isaL_cons (isaF_mk (PySem.W.mg_of X G xa14) (PySem.W.mg_of X G xa10) xs10 xd10 xt10 xP248 xo14) (isaL_cons (isaF_mk (PySem.W.mg_of X G xa14) (PySem.W.mg_of X G xa11) xs11 xd11 xt11 xP249 xo14) (isaL_cons (isaF_mk (PySem.W.mg_of X G xa14) (PySem.W.mg_of X G xa12) xs12 xd12 xt12 xP250 xo14) (isaL_cons (isaF_mk (PySem.W.mg_of X G xa14) (PySem.W.mg_of X G xa13) xs13 xd13 xt13 xP251 xo14) (isaL_cons (isaF_mk (PySem.W.mg_of X G xa14) (PySem.W.mg_of X G xa14) xs14 xd14 xt14 xP252 xo14) (isaL_cons (isaF_mk (PySem.W.mg_of X G xa14) (PySem.W.mg_of X G xa15) xs15 xd15 xt15 xP253 xo14) (isaL_cons (isaF_mk (PySem.W.mg_of X G xa14) (PySem.W.mg_of X G xa16) xs16 xd16 xt16 xP254 xo14) (isaL_cons (isaF_mk (PySem.W.mg_of X G xa15) (PySem.W.mg_of X G xa0) xs0 xd0 xt0 xP255 xo15) (isaL_cons (isaF_mk (PySem.W.mg_of X G xa15) (PySem.W.mg_of X G xa1) xs1 xd1 xt1 xP256 xo15) (isaL_cons (isaF_mk (PySem.W.mg_of X G xa15) (PySem.W.mg_of X G xa2) xs2 xd2 xt2 xP257 xo15) (isaL_cons (isaF_mk (PySem.W.mg_of X G xa15) (PySem.W.mg_of X G xa3) xs3 xd3 xt3 xP258 xo15) (isaL_cons (isaF_mk (PySem.W.mg_of X G xa15) (PySem.W.mg_of X G xa4) xs4 xd4 xt4 xP259 xo15) (isaL_cons (isaF_mk (PySem.W.mg_of X G xa15) (PySem.W.mg_of X G xa5) xs5 xd5 xt5 xP260 xo15) (isaL_cons (isaF_mk (PySem.W.mg_of X G xa15) (PySem.W.mg_of X G xa6) xs6 xd6 xt6 xP261 xo15) (isaL_cons (isaF_mk (PySem.W.mg_of X G xa15) (PySem.W.mg_of X G xa7) xs7 xd7 xt7 xP262 xo15) (isaL_cons (isaF_mk (PySem.W.mg_of X G xa15) (PySem.W.mg_of X G xa8) xs8 xd8 xt8 xP263 xo15) (isaL_cons (isaF_mk (PySem.W.mg_of X G xa15) (PySem.W.mg_of X G xa9) xs9 xd9 xt9 xP264 xo15) (isaL_cons (isaF_mk (PySem.W.mg_of X G xa15) (PySem.W.mg_of X G xa10) xs10 xd10 xt10 xP265 xo15) (isaL_cons (isaF_mk (PySem.W.mg_of X G xa15) (PySem.W.mg_of X G xa11) xs11 xd11 xt11 xP266 xo15) (isaL_cons (isaF_mk (PySem.W.mg_of X G xa15) (PySem.W.mg_of X G xa12) xs12 xd12 xt12 xP267 xo15) (isaL_cons (isaF_mk (PySem.W.mg_of X G xa15) (PySem.W.mg_of X G xa13) xs13 xd13 xt13 xP268 xo15) (isaL_cons (isaF_mk (PySem.W.mg_of X G xa15) (PySem.W.mg_of X G xa14) xs14 xd14 xt14 xP269 xo15) (isaL_cons (isaF_mk (PySem.W.mg_of X G xa15) (PySem.W.mg_of X G xa15) xs15 xd15 xt15 xP270 xo15) (isaL_cons (isaF_mk (PySem.W.mg_of X G xa15) (PySem.W.mg_of X G xa16) xs16 xd16 xt16 xP271 xo15) (isaL_cons (isaF_mk (PySem.W.mg_of X G xa16) (PySem.W.mg_of X G xa0) xs0 xd0 xt0 xP272 xo16) (isaL_cons (isaF_mk (PySem.W.mg_of X G xa16) (PySem.W.mg_of X G xa1) xs1 xd1 xt1 xP273 xo16) (isaL_cons (isaF_mk (PySem.W.mg_of X G xa16) (PySem.W.mg_of X G xa2) xs2 xd2 xt2 xP274 xo16) (isaL_cons (isaF_mk (PySem.W.mg_of X G xa16) (PySem.W.mg_of X G xa3) xs3 xd3 xt3 xP275 xo16) (isaL_cons (isaF_mk (PySem.W.mg_of X G xa16) (PySem.W.mg_of X G xa4) xs4 xd4 xt4 xP276 xo16) (isaL_cons (isaF_mk (PySem.W.mg_of X G xa16) (PySem.W.mg_of X G xa5) xs5 xd5 xt5 xP277 xo16) (isaL_cons (isaF_mk (PySem.W.mg_of X G xa16) (PySem.W.mg_of X G xa6) xs6 xd6 xt6 xP278 xo16) (isaL_cons (isaF_mk (PySem.W.mg_of X G xa16) (PySem.W.mg_of X G xa7) xs7 xd7 xt7 xP279 xo16) (isaL_cons (isaF_mk (PySem.W.mg_of X G xa16) (PySem.W.mg_of X G xa8) xs8 xd8 xt8 xP280 xo16) (isaL_cons (isaF_mk (PySem.W.mg_of X G xa16) (PySem.W.mg_of X G xa9) xs9 xd9 xt9 xP281 xo16) (isaL_cons (isaF_mk (PySem.W.mg_of X G xa16) (PySem.W.mg_of X G xa10) xs10 xd10 xt10 xP282 xo16) (isaL_cons (isaF_mk (PySem.W.mg_of X G xa16) (PySem.W.mg_of X G xa11) xs11 xd11 xt11 xP283 xo16) (isaL_cons (isaF_mk (PySem.W.mg_of X G xa16) (PySem.W.mg_of X G xa12) xs12 xd12 xt12 xP284 xo16) (isaL_cons (isaF_mk (PySem.W.mg_of X G xa16) (PySem.W.mg_of X G xa13) xs13 xd13 xt13 xP285 xo16) (isaL_cons (isaF_mk (PySem.W.mg_of X G xa16) (PySem.W.mg_of X G xa14) xs14 xd14 xt14 xP286 xo16) (isaL_cons (isaF_mk (PySem.W.mg_of X G xa16) (PySem.W.mg_of X G xa15) xs15 xd15 xt15 xP287 xo16) (isaL_cons (isaF_mk (PySem.W.mg_of X G xa16) (PySem.W.mg_of X G xa16) xs16 xd16 xt16 xP288 xo16) isaL_nil))))))))))))))))))))))))))))))))))))))))))))))))))))))))))))))))))))))))))))))))))))))))))))))))))))))))))))))))))))))))))))))))))))))))))))))))))))))))))))))))))))))))))))))))))))))))))))))))))))))))))))))))))))))))))))))))))))))))))))))))))))))))))))))))))))))))))))))))))))))))))))))))), x_xc := (XcG.cons ⟨_, (PySem.W.mg_of X G xa0), ⟨xg0, xh0, xs0, xd0, xc0, xgA, xgB, xm0⟩⟩ (XcG.cons ⟨_, (PySem.W.mg_of X G xa1), ⟨xg1, xh1, xs1, xd1, xc1, xgA, xgB, xm1⟩⟩ (XcG.cons ⟨_, (PySem.W.mg_of X G xa2), ⟨xg2, xh2, xs2, xd2, xc2, xgA, xgB, xm2⟩⟩ (XcG.cons ⟨_, (PySem.W.mg_of X G xa3), ⟨xg3, xh3, xs3, xd3, xc3, xgA, xgB, xm3⟩⟩ (XcG.cons ⟨_, (PySem.W.mg_of X G xa4), ⟨xg4, xh4, xs4, xd4, xc4, xgA, xgB, xm4⟩⟩ (XcG.cons ⟨_, (PySem.W.mg_of X G xa5), ⟨xg5, xh5, xs5, xd5, xc5, xgA, xgB, xm5⟩⟩ (XcG.cons ⟨_, (PySem.W.mg_of X G xa6), ⟨xg6, xh6, xs6, xd6, xc6, xgA, xgB, xm6⟩⟩ (XcG.cons ⟨_, (PySem.W.mg_of X G xa7), ⟨xg7, xh7, xs7, xd7, xc7, xgA, xgB, xm7⟩⟩ (XcG.cons ⟨_, (PySem.W.mg_of X G xa8), ⟨xg8, xh8, xs8, xd8, xc8, xgA, xgB, xm8⟩⟩ (XcG.cons ⟨_, (PySem.W.mg_of X G xa9), ⟨xg9, xh9, xs9, xd9, xc9, xgA, xgB, xm9⟩⟩ (XcG.cons ⟨_, (PySem.W.mg_of X G xa10), ⟨xg10, xh10, xs10, xd10, xc10, xgA, xgB, xm10⟩⟩ (XcG.cons ⟨_, (PySem.W.mg_of X G xa11), ⟨xg11, xh11, xs11, xd11, xc11, xgA, xgB, xm11⟩⟩ (XcG.cons ⟨_, (PySem.W.mg_of X G xa12), ⟨xg12, xh12, xs12, xd12, xc12, xgA, xgB, xm12⟩⟩ (XcG.cons ⟨_, (PySem.W.mg_of X G xa13), ⟨xg13, xh13, xs13, xd13, xc13, xgA, xgB, xm13⟩⟩ (XcG.cons ⟨_, (PySem.W.mg_of X G xa14), ⟨xg14, xh14, xs14, xd14, xc14, xgA, xgB, xm14⟩⟩ (XcG.cons ⟨_, (PySem.W.mg_of X G xa15), ⟨xg15, xh15, xs15, xd15, xc15, xgA, xgB, xm15⟩⟩ (XcG.cons ⟨_, (PySem.W.mg_of X G xa16), ⟨xg16, xh16, xs16, xd16, xc16, xgA, xgB, xm16⟩⟩ XcG.nil))))))))))))))))), x_fl := (FlG.cons ⟨_, (PySem.W.mg_of X G xa0), xn_where0⟩ (FlG.cons ⟨_, (PySem.W.mg_of X G xa0), xn_word0⟩ (FlG.cons ⟨_, (PySem.W.mg_of X G xa1), xn_at1⟩ (FlG.cons ⟨_, (PySem.W.mg_of X G xa2), xn_at2⟩ (FlG.cons ⟨_, (PySem.W.mg_of X G xa3), xn_at3⟩ (FlG.cons ⟨_, (PySem.W.mg_of X G xa4), xn_number4⟩ (FlG.cons ⟨_, (PySem.W.mg_of X G xa5), xn_where5⟩ (FlG.cons ⟨_, (PySem.W.mg_of X G xa5), xn_word5⟩ (FlG.cons ⟨_, (PySem.W.mg_of X G xa7), xn_at7⟩ (FlG.cons ⟨_, (PySem.W.mg_of X G xa8), xn_name8⟩ (FlG.cons ⟨_, (PySem.W.mg_of X G xa9), xn_path9⟩ (FlG.cons ⟨_, (PySem.W.mg_of X G xa13), xn_at13⟩ (FlG.cons ⟨_, (PySem.W.mg_of X G xa14), xn_number14⟩ (FlG.cons ⟨_, (PySem.W.mg_of X G xa15), xn_name15⟩ (FlG.cons ⟨_, (PySem.W.mg_of X G xa16), xn_where16⟩ (FlG.cons ⟨_, (PySem.W.mg_of X G xa16), xn_many16⟩ FlG.nil)))))))))))))))), x_xb := (IsbG.cons (isbF_mk (PySem.W.mg_of X G xa0) (by decide +kernel) xv0) (IsbG.cons (isbF_mk (PySem.W.mg_of X G xa1) (by decide +kernel) xv1) (IsbG.cons (isbF_mk (PySem.W.mg_of X G xa2) (by decide +kernel) xv2) (IsbG.cons (isbF_mk (PySem.W.mg_of X G xa3) (by decide +kernel) xv3) (IsbG.cons (isbF_mk (PySem.W.mg_of X G xa4) (by decide +kernel) xv4) (IsbG.cons (isbF_mk (PySem.W.mg_of X G xa5) (by decide +kernel) xv5) (IsbG.cons (isbF_mk (PySem.W.mg_of X G xa6) (by decide +kernel) xv6) (IsbG.cons (isbF_mk (PySem.W.mg_of X G xa7) (by decide +kernel) xv7) (IsbG.cons (isbF_mk (PySem.W.mg_of X G xa8) (by decide +kernel) xv8) (IsbG.cons (isbF_mk (PySem.W.mg_of X G xa9) (by decide +kernel) xv9) (IsbG.cons (isbF_mk (PySem.W.mg_of X G xa10) (by decide +kernel) xv10) (IsbG.cons (isbF_mk (PySem.W.mg_of X G xa11) (by decide +kernel) xv11) (IsbG.cons (isbF_mk (PySem.W.mg_of X G xa12) (by decide +kernel) xv12) (IsbG.cons (isbF_mk (PySem.W.mg_of X G xa13) (by decide +kernel) xv13) (IsbG.cons (isbF_mk (PySem.W.mg_of X G xa14) (by decide +kernel) xv14) (IsbG.cons (isbF_mk (PySem.W.mg_of X G xa15) (by decide +kernel) xv15) (IsbG.cons (isbF_mk (PySem.W.mg_of X G xa16) (by decide +kernel) xv16) IsbG.nil))))))))))))))))), k_Astray := ClsG.cons (PySem.W.mg_of X G xa0) ClsG.nil, k_BadDef := ClsG.cons (PySem.W.mg_of X G xa1) ClsG.nil, k_BadItem := ClsG.cons (PySem.W.mg_of X G xa2) ClsG.nil, k_BadRun := ClsG.cons (PySem.W.mg_of X G xa3) ClsG.nil, k_Large := ClsG.cons (PySem.W.mg_of X G xa4) ClsG.nil, k_Loose := ClsG.cons (PySem.W.mg_of X G xa5) ClsG.nil, k_MeltError := ClsG.cons (PySem.W.mg_of X G xa6) ClsG.nil, k_NoChoice := ClsG.cons (PySem.W.mg_of X G xa7) ClsG.nil, k_NoDef := ClsG.cons (PySem.W.mg_of X G xa8) ClsG.nil, k_NoPath := ClsG.cons (PySem.W.mg_of X G xa9) ClsG.nil, k_NoRow := ClsG.cons (PySem.W.mg_of X G xa10) ClsG.nil, k_NoText := ClsG.cons (PySem.W.mg_of X G xa11) ClsG.nil, k_Nothing := ClsG.cons (PySem.W.mg_of X G xa12) ClsG.nil, k_Stopped := ClsG.cons (PySem.W.mg_of X G xa13) ClsG.nil, k_TooMany := ClsG.cons (PySem.W.mg_of X G xa14) ClsG.nil, k_Twice := ClsG.cons (PySem.W.mg_of X G xa15) ClsG.nil, k_Unfit := ClsG.cons (PySem.W.mg_of X G xa16) ClsG.nil, x_t_MeltError := ⟨_, (PySem.W.mg_of X G xa6), xX6, xk6, xs6, xt6⟩, x_t_NoRow := ⟨_, (PySem.W.mg_of X G xa10), xX10, xk10, xs10, xt10⟩, x_t_NoText := ⟨_, (PySem.W.mg_of X G xa11), xX11, xk11, xs11, xt11⟩, x_t_Nothing := ⟨_, (PySem.W.mg_of X G xa12), xX12, xk12, xs12, xt12⟩, b_MeltError := ⟨_, _, (PySem.W.mg_of X G xa6), ⟨xr6, xy6⟩, xz6⟩ }
    f_Astray____init__ := ⟨_, _, _, fun_mk (st := s_Astray____init__) xl_0 xC0 xK0, (PySem.W.mg_of X G xa0), ⟨⟨_, _, _, _, _, _, _, _, _, _, _, _, _, _, _, xL0, yrV0⟩, xw0, xs0, xt0, xk0⟩, xI0, xT0, (fun g => (fun h => (List.mem_cons.mp h).elim (fun z => z ▸ xn_where0) (fun h => (List.mem_cons.mp h).elim (fun z => z ▸ xn_word0) (fun h => nomatch h))))⟩
    f_BadDef____init__ := ⟨_, _, _, fun_mk (st := s_BadDef____init__) xl_1 xC1 xK1, (PySem.W.mg_of X G xa1), ⟨⟨_, _, _, _, _, _, _, _, _, _, _, _, _, _, _, xL1, yrV1⟩, xw1, xs1, xt1, xk1⟩, xI1, xT1, (fun g => (fun h => (List.mem_cons.mp h).elim (fun z => z ▸ xn_at1) (fun h => nomatch h)))⟩
    f_BadItem____init__ := ⟨_, _, _, fun_mk (st := s_BadItem____init__) xl_2 xC2 xK2, (PySem.W.mg_of X G xa2), ⟨⟨_, _, _, _, _, _, _, _, _, _, _, _, _, _, _, xL2, yrV2⟩, xw2, xs2, xt2, xk2⟩, xI2, xT2, (fun g => (fun h => (List.mem_cons.mp h).elim (fun z => z ▸ xn_at2) (fun h => nomatch h)))⟩
    f_BadRun____init__ := ⟨_, _, _, fun_mk (st := s_BadRun____init__) xl_3 xC3 xK3, (PySem.W.mg_of X G xa3), ⟨⟨_, _, _, _, _, _, _, _, _, _, _, _, _, _, _, xL3, yrV3⟩, xw3, xs3, xt3, xk3⟩, xI3, xT3, (fun g => (fun h => (List.mem_cons.mp h).elim (fun z => z ▸ xn_at3) (fun h => nomatch h)))⟩
    f_Large____init__ := ⟨_, _, _, fun_mk (st := s_Large____init__) xl_4 xC4 xK4, (PySem.W.mg_of X G xa4), ⟨⟨_, _, _, _, _, _, _, _, _, _, _, _, _, _, _, xL4, yrV4⟩, xw4, xs4, xt4, xk4⟩, xI4, xT4, (fun g => (fun h => (List.mem_cons.mp h).elim (fun z => z ▸ xn_number4) (fun h => nomatch h)))⟩
    f_Loose____init__ := ⟨_, _, _, fun_mk (st := s_Loose____init__) xl_5 xC5 xK5, (PySem.W.mg_of X G xa5), ⟨⟨_, _, _, _, _, _, _, _, _, _, _, _, _, _, _, xL5, yrV5⟩, xw5, xs5, xt5, xk5⟩, xI5, xT5, (fun g => (fun h => (List.mem_cons.mp h).elim (fun z => z ▸ xn_where5) (fun h => (List.mem_cons.mp h).elim (fun z => z ▸ xn_word5) (fun h => nomatch h))))⟩
    f_NoChoice____init__ := ⟨_, _, _, fun_mk (st := s_NoChoice____init__) xl_7 xC7 xK7, (PySem.W.mg_of X G xa7), ⟨⟨_, _, _, _, _, _, _, _, _, _, _, _, _, _, _, xL7, yrV7⟩, xw7, xs7, xt7, xk7⟩, xI7, xT7, (fun g => (fun h => (List.mem_cons.mp h).elim (fun z => z ▸ xn_at7) (fun h => nomatch h)))⟩
    f_NoDef____init__ := ⟨_, _, _, fun_mk (st := s_NoDef____init__) xl_8 xC8 xK8, (PySem.W.mg_of X G xa8), ⟨⟨_, _, _, _, _, _, _, _, _, _, _, _, _, _, _, xL8, yrV8⟩, xw8, xs8, xt8, xk8⟩, xI8, xT8, (fun g => (fun h => (List.mem_cons.mp h).elim (fun z => z ▸ xn_name8) (fun h => nomatch h)))⟩
    f_NoPath____init__ := ⟨_, _, _, fun_mk (st := s_NoPath____init__) xl_9 xC9 xK9, (PySem.W.mg_of X G xa9), ⟨⟨_, _, _, _, _, _, _, _, _, _, _, _, _, _, _, xL9, yrV9⟩, xw9, xs9, xt9, xk9⟩, xI9, xT9, (fun g => (fun h => (List.mem_cons.mp h).elim (fun z => z ▸ xn_path9) (fun h => nomatch h)))⟩
    f_Stopped____init__ := ⟨_, _, _, fun_mk (st := s_Stopped____init__) xl_13 xC13 xK13, (PySem.W.mg_of X G xa13), ⟨⟨_, _, _, _, _, _, _, _, _, _, _, _, _, _, _, xL13, yrV13⟩, xw13, xs13, xt13, xk13⟩, xI13, xT13, (fun g => (fun h => (List.mem_cons.mp h).elim (fun z => z ▸ xn_at13) (fun h => nomatch h)))⟩
    f_TooMany____init__ := ⟨_, _, _, fun_mk (st := s_TooMany____init__) xl_14 xC14 xK14, (PySem.W.mg_of X G xa14), ⟨⟨_, _, _, _, _, _, _, _, _, _, _, _, _, _, _, xL14, yrV14⟩, xw14, xs14, xt14, xk14⟩, xI14, xT14, (fun g => (fun h => (List.mem_cons.mp h).elim (fun z => z ▸ xn_number14) (fun h => nomatch h)))⟩
    f_Twice____init__ := ⟨_, _, _, fun_mk (st := s_Twice____init__) xl_15 xC15 xK15, (PySem.W.mg_of X G xa15), ⟨⟨_, _, _, _, _, _, _, _, _, _, _, _, _, _, _, xL15, yrV15⟩, xw15, xs15, xt15, xk15⟩, xI15, xT15, (fun g => (fun h => (List.mem_cons.mp h).elim (fun z => z ▸ xn_name15) (fun h => nomatch h)))⟩
    f_Unfit____init__ := ⟨_, _, _, fun_mk (st := s_Unfit____init__) xl_16 xC16 xK16, (PySem.W.mg_of X G xa16), ⟨⟨_, _, _, _, _, _, _, _, _, _, _, _, _, _, _, xL16, yrV16⟩, xw16, xs16, xt16, xk16⟩, xI16, xT16, (fun g => (fun h => (List.mem_cons.mp h).elim (fun z => z ▸ xn_where16) (fun h => (List.mem_cons.mp h).elim (fun z => z ▸ xn_many16) (fun h => nomatch h))))⟩
    f__law_bag := ⟨_, _, fun_mk (st := s__law_bag) l1 c1 k1, PySem.W.mg_of X G a1⟩
    f__law_take := ⟨_, _, fun_mk (st := s__law_take) l2 c2 k2, PySem.W.mg_of X G a2⟩
    f__law_flags := ⟨_, _, fun_mk (st := s__law_flags) l3 c3 k3, PySem.W.mg_of X G a3⟩
    f__law_thing := ⟨_, _, fun_mk (st := s__law_thing) l4 c4 k4, PySem.W.mg_of X G a4⟩
    f__law_made := ⟨_, _, fun_mk (st := s__law_made) l5 c5 k5, PySem.W.mg_of X G a5⟩
    f__law_told := ⟨_, _, fun_mk (st := s__law_told) l6 c6 k6, PySem.W.mg_of X G a6⟩
    f_law := ⟨_, _, fun_mk (st := s_law) l7 c7 k7, PySem.W.mg_of X G a7⟩
  }
  exact ⟨PySem.W.fnOf "law" "law" (defArgs s_law) (defBody s_law) (defScope s_law) .none kV7 dc7 pm7 an7 cd7 ct7, fun s v => .of_eq rfl, fun base _ _ => (ok_law (fun_mk (st := s_law) l7 c7 k7) T.G (cs T N)).all⟩
/-! exceptions as things -/
noncomputable def CN : List Str := ["NoText", "Nothing", "NoRow", "BadDef", "BadRun", "BadItem", "NoChoice", "Stopped", "Twice", "NoDef", "Loose", "Astray", "Unfit", "NoPath", "TooMany", "Large"]
noncomputable def exL (a b : D) : List D := [.xo "NoText" [], .xo "Nothing" [], .xo "NoRow" [], .xo "BadDef" [("at", a)], .xo "BadRun" [("at", a)], .xo "BadItem" [("at", a)], .xo "NoChoice" [("at", a)],
  .xo "Stopped" [("at", a)], .xo "Twice" [("name", a)], .xo "NoDef" [("name", a)], .xo "Loose" [("word", b), ("where", a)], .xo "Astray" [("word", b), ("where", a)], .xo "Unfit" [("many", b), ("where", a)],
  .xo "NoPath" [("path", a)], .xo "TooMany" [("number", a)], .xo "Large" [("number", a)]]
noncomputable def dueL (a b : D) : List D := [a, a, a, a, a, a, a, a, b, a, b, a, b, a, a, a]
theorem made_eq (n : Nat) (a b : D) : den (n + 1) "_law_made" [.d a, .d b] = .ok (.lst (exL a b)) [some (.d a), some (.d b)] := by
  refine eq_of_wp ?_
  rw [den__law_made]
  refine run_wp rfl ?_
  unfold b__law_made
  simp -dsimp [List.replicate]
  rfl
theorem told_eq (n : Nat) (a b : D) : den (n + 1) "_law_told" [.d (.lst (exL a b))] = .ok (.lst (dueL a b)) [some (.d (.lst (exL a b)))] := by
  have r5 : rangeD 3 5 = [.int 3, .int 4, .int 5, .int 6, .int 7] := rfl
  have a3 : atI (exL a b) 3 = some (.xo "BadDef" [("at", a)]) := rfl
  have a4 : atI (exL a b) 4 = some (.xo "BadRun" [("at", a)]) := rfl
  have a5 : atI (exL a b) 5 = some (.xo "BadItem" [("at", a)]) := rfl
  have a6 : atI (exL a b) 6 = some (.xo "NoChoice" [("at", a)]) := rfl
  have a7 : atI (exL a b) 7 = some (.xo "Stopped" [("at", a)]) := rfl
  have a8 : atI (exL a b) 8 = some (.xo "Twice" [("name", a)]) := rfl
  have a9 : atI (exL a b) 9 = some (.xo "NoDef" [("name", a)]) := rfl
  have a10 : atI (exL a b) 10 = some (.xo "Loose" [("word", b), ("where", a)]) := rfl
  have a11 : atI (exL a b) 11 = some (.xo "Astray" [("word", b), ("where", a)]) := rfl
  have a12 : atI (exL a b) 12 = some (.xo "Unfit" [("many", b), ("where", a)]) := rfl
  have a13 : atI (exL a b) 13 = some (.xo "NoPath" [("path", a)]) := rfl
  have a14 : atI (exL a b) 14 = some (.xo "TooMany" [("number", a)]) := rfl
  have a15 : atI (exL a b) 15 = some (.xo "Large" [("number", a)]) := rfl
  have lw : List.lookup ("where" : Str) [(("word" : Str), b), (("where" : Str), a)] = some a := by
    rw [List.lookup_cons, show (("where" : Str) == "word") = false by decide +kernel]; rfl
  have lw2 : List.lookup ("where" : Str) [(("many" : Str), b), (("where" : Str), a)] = some a := by
    rw [List.lookup_cons, show (("where" : Str) == "many") = false by decide +kernel]; rfl
  obtain ⟨L, hL⟩ : ∃ L, L = exL a b := ⟨_, rfl⟩
  rw [← hL] at a3 a4 a5 a6 a7 a8 a9 a10 a11 a12 a13 a14 a15 ⊢
  refine eq_of_wp ?_
  rw [den__law_told]
  refine run_wp rfl ?_
  unfold b__law_told
  have lc : mLc [2] (iRng2 (eC (.int 3)) (eC (.int 8))) (gN 2) tTrue (eXo xcs xfs "at" (eM (mBin ixD (eN 0) (eN 2)))) [some (.d (.lst L)), none, none] = .ok (.lst [a, a, a, a, a]) [some (.d (.lst L)), none, none] := by
    unfold mLc
    simp -dsimp [r5, lcL, tTrue, line_val, wipeS, restS, keepD, a3, a4, a5, a6, a7]
  simp -dsimp [List.replicate, forL_cons, lc, a8, a9, a10, a11, a12, a13, a14, a15, lw, lw2]
  rfl
theorem isa_all : ∀ c ∈ CN, ∀ d ∈ CN, isaT c d = some (decide (c = d)) := by decide +kernel
theorem isa_melt : (∀ c ∈ CN, isaT c "MeltError" = some true) ∧ (∀ d ∈ CN, isaT "MeltError" d = some false) := by decide +kernel
theorem xcs_all : (∀ c ∈ CN, c ∈ xcs ∧ ((c, "ValueError", true) : Str × String × Bool) ∈ xbs) ∧ (("MeltError" : Str) ∈ xcs) ∧ (("MeltError", "ValueError", true) : Str × String × Bool) ∈ xbs := by decide +kernel
theorem flags_gen (n : Nat) (c : Str) (fs : List (Str × D)) (hc : c ∈ xcs) (f : Str → Bool) (h : ∀ d ∈ CN, isaT c d = some (f d)) : den (n + 1) "_law_flags" [.d (.xo c fs)] = .ok (.lst ((CN.map f).map .bl)) [some (.d (.xo c fs))] := by
  have g := fun d hd => h d hd
  unfold CN at g ⊢
  simp only [List.forall_mem_cons] at g
  obtain ⟨g1, g2, g3, g4, g5, g6, g7, g8, g9, g10, g11, g12, g13, g14, g15, g16, _⟩ := g
  refine eq_of_wp ?_
  rw [den__law_flags]
  refine run_wp rfl ?_
  unfold b__law_flags
  simp -dsimp [List.replicate, hc, g1, g2, g3, g4, g5, g6, g7, g8, g9, g10, g11, g12, g13, g14, g15, g16]
theorem bls_ne (B : List Bool) : neD (.lst (B.map .bl)) (.lst (B.map .bl)) = some (.d (.bl false)) := by
  have h : ∀ B : List Bool, D.pls (B.map .bl) = true ∧ D.deps (B.map .bl) ≤ 0 ∧ D.eqbs (B.map .bl) (B.map .bl) = true := by
    intro B
    induction B with
    | nil => exact ⟨rfl, Nat.le_refl _, rfl⟩
    | cons b B ih =>
      obtain ⟨i1, i2, i3⟩ := ih
      refine ⟨?_, ?_, ?_⟩
      · show (true && D.pls (B.map .bl)) = true
        rw [i1]; rfl
      · show max 0 (D.deps (B.map .bl)) ≤ 0
        omega
      · show (D.eqb (.bl b) (.bl b) && D.eqbs (B.map .bl) (B.map .bl)) = true
        rw [i3]
        cases b <;> rfl
  obtain ⟨h1, h2, h3⟩ := h B
  have d1 : D.dep (.lst (B.map .bl)) ≤ 190 := by show D.deps (B.map .bl) + 1 ≤ 190; omega
  have p1 : D.pl (.lst (B.map .bl)) = true := h1
  have e1 : D.eqb (.lst (B.map .bl)) (.lst (B.map .bl)) = true := h3
  rw [neD_ap, eqOk_ap, p1, if_pos (by rw [decide_eq_true (show min _ _ ≤ 190 by omega)]; rfl), e1]
  rfl
/-! small things are shown -/
mutual
noncomputable def D.sp : D → Bool
  | .non => true
  | .bl _ => true
  | .int i => decide (i.natAbs < 10 ^ 41)
  | .str x => decide (x.length ≤ 30) && (tl x).all fun c => decide (c < 4294967296)
  | .tup xs => D.sps xs
  | .lst xs => D.sps xs
  | .dk kvs => kvs.isEmpty
  | _ => false
noncomputable def D.sps : List D → Bool
  | [] => true
  | x :: xs => D.sp x && D.sps xs
end
theorem sps_iff : ∀ {xs : List D}, D.sps xs = true ↔ ∀ x ∈ xs, x.sp = true
  | [] => by simp [D.sps]
  | x :: xs => by simp [D.sps, sps_iff (xs := xs)]
theorem sp_str {x : Str} (h : (D.str x).sp = true) : x.length ≤ 30 ∧ ∀ c ∈ tl x, c < 4294967296 := by
  have h : (decide (x.length ≤ 30) && (tl x).all fun c => decide (c < 4294967296)) = true := h
  rw [Bool.and_eq_true, List.all_eq_true] at h
  exact ⟨of_decide_eq_true h.1, fun c hc => of_decide_eq_true (h.2 c hc)⟩
mutual
noncomputable def D.wz : D → Nat
  | .tup xs => D.wzs xs + 1
  | .lst xs => D.wzs xs + 1
  | _ => 1
noncomputable def D.wzs : List D → Nat
  | [] => 0
  | x :: xs => x.wz + D.wzs xs
end
theorem sps_c {x : D} {xs : List D} (h : D.sps (x :: xs) = true) : x.sp = true ∧ D.sps xs = true := by
  have h : (x.sp && D.sps xs) = true := h
  rwa [Bool.and_eq_true] at h
mutual
theorem sp_show : ∀ d : D, d.sp = true → d.plz = true ∧ d.pyz.showable = true ∧ d.pyz.shown.length + 50 ≤ 400 * d.wz ∧ d.pyz.depth ≤ d.dep + 1
  | .non, _ => ⟨rfl, rfl, by decide +kernel, by decide +kernel⟩
  | .bl b, _ => ⟨rfl, rfl, by cases b <;> decide +kernel, by cases b <;> decide +kernel⟩
  | .int i, h => by
    have h : i.natAbs < 10 ^ 41 := of_decide_eq_true (show decide (i.natAbs < 10 ^ 41) = true from h)
    refine ⟨rfl, ?_, ?_, ?_⟩
    · show decide (i.natAbs.log2 < 1920) = true
      exact decide_eq_true (Nat.lt_of_lt_of_le (PySem.Flt.log2_lt_of (k := 137) (by decide) (Nat.lt_of_lt_of_le h (by decide +kernel))) (by decide))
    · have e := int_text_length_le10 (a := i) (k := 41) (by decide) h
      show (Str.ofString (toString i)).length + 50 ≤ 400 * 1
      rw [PySem.ofString_length]
      omega
    · show 0 ≤ 0 + 1
      omega
  | .str x, h => by
    obtain ⟨h1, h2⟩ := sp_str h
    refine ⟨rfl, rfl, ?_, ?_⟩
    · have e := StrLaws.reprText_len x fun c hc => by
        have := h2 c hc
        have : (16 : Nat) ^ 8 = 4294967296 := by decide
        omega
      show (reprText x).length + 50 ≤ 400 * 1
      omega
    · show 0 ≤ 0 + 1
      omega
  | .tup xs, h => by
    obtain ⟨h1, h2, h3, h4⟩ := sps_show xs h
    refine ⟨h1, ?_, ?_, ?_⟩
    · simpa [D.pyz, PyData.showable] using h2
    · have e := fmt_text (PyData.shownAll (D.pyzs xs))
      have e2 : (D.tup xs).pyz.shown = tupleText (PyData.shownAll (D.pyzs xs)) := by simp only [D.pyz, PyData.shown]
      rw [e2]
      show _ ≤ 400 * (D.wzs xs + 1)
      omega
    · simp only [D.pyz, PyData.depth]
      show _ ≤ D.deps xs + 1 + 1
      omega
  | .lst xs, h => by
    obtain ⟨h1, h2, h3, h4⟩ := sps_show xs h
    refine ⟨h1, ?_, ?_, ?_⟩
    · simpa [D.pyz, PyData.showable] using h2
    · have e := listText_le (PyData.shownAll (D.pyzs xs))
      have e2 : (D.lst xs).pyz.shown = listText (PyData.shownAll (D.pyzs xs)) := by simp only [D.pyz, PyData.shown]
      rw [e2]
      show _ ≤ 400 * (D.wzs xs + 1)
      omega
    · simp only [D.pyz, PyData.depth]
      show _ ≤ D.deps xs + 1 + 1
      omega
  | .dk kvs, h => ⟨h, rfl, by show (PyData.shown (.dict [])).length + 50 ≤ 400 * 1; decide +kernel, by show PyData.depth (.dict []) ≤ 0 + 1; decide +kernel⟩
theorem sps_show : ∀ xs : List D, D.sps xs = true → D.plzs xs = true ∧ PyData.showableAll (D.pyzs xs) = true ∧ piled (PyData.shownAll (D.pyzs xs)) ≤ 400 * D.wzs xs ∧ PyData.depthAll (D.pyzs xs) ≤ D.deps xs + 1
  | [], _ => ⟨rfl, rfl, Nat.le_refl _, by decide +kernel⟩
  | x :: xs, h => by
    obtain ⟨hx, hs⟩ := sps_c h
    obtain ⟨a1, a2, a3, a4⟩ := sp_show x hx
    obtain ⟨b1, b2, b3, b4⟩ := sps_show xs hs
    refine ⟨?_, ?_, ?_, ?_⟩
    · show (D.plz x && D.plzs xs) = true
      rw [a1, b1]; rfl
    · show (PyData.showable (D.pyz x) && PyData.showableAll (D.pyzs xs)) = true
      rw [a2, b2]; rfl
    · show piled (PyData.shown (D.pyz x) :: PyData.shownAll (D.pyzs xs)) ≤ 400 * (x.wz + D.wzs xs)
      rw [piled_cons]
      omega
    · show max (PyData.depth (D.pyz x)) (PyData.depthAll (D.pyzs xs)) ≤ max x.dep (D.deps xs) + 1
      omega
end
theorem sp_ok {d : D} (h : d.sp = true) (hz : d.wz ≤ 10000) (hd : d.dep ≤ 100) : rpzOk d = true := by
  obtain ⟨h1, h2, h3, h4⟩ := sp_show d h
  unfold rpzOk
  rw [h1, h2, decide_eq_true (show d.pyz.depth ≤ 190 by omega), decide_eq_true (show (rpz d).length ≤ 16777216 by unfold rpz; omega)]
  rfl
theorem reprG_sp {d : D} (h : d.sp = true) (hz : d.wz ≤ 10000) (hd : d.dep ≤ 100) : ∃ t, reprG d = some (.d (.str t)) := by
  have ok := sp_ok h hz hd
  cases d with
  | non => exact ⟨_, rfl⟩
  | bl b => exact ⟨_, rfl⟩
  | int i =>
    have h : i.natAbs < 10 ^ 41 := of_decide_eq_true (show decide (i.natAbs < 10 ^ 41) = true from h)
    have e : i.natAbs.log2 < 1920 := Nat.lt_of_lt_of_le (PySem.Flt.log2_lt_of (k := 137) (by decide) (Nat.lt_of_lt_of_le h (by decide +kernel))) (by decide)
    refine ⟨toString i, reprG_of ?_⟩
    show (if i.natAbs.log2 < 1920 then some (M.d (.str (toString i))) else none) = _
    rw [if_pos e]
  | str x =>
    obtain ⟨h1, h2⟩ := sp_str h
    have e := StrLaws.reprText_len x fun c hc => by
      have := h2 c hc
      have : (16 : Nat) ^ 8 = 4294967296 := by decide
      omega
    refine ⟨reprText x, reprG_of ?_⟩
    show (if (reprText x).length ≤ 16777216 then some (M.d (.str (reprText x))) else none) = _
    rw [if_pos (by omega)]
  | tup xs =>
    by_cases c : rpOk (.tup xs) = true
    · exact ⟨_, reprG_of (reprF_of (reprE_of (by rw [reprD_t, if_pos c])))⟩
    · by_cases c2 : rpxOk (.tup xs) = true
      · refine ⟨rpx (.tup xs), reprG_of (reprF_of ?_)⟩
        unfold reprE
        rw [reprD_t, if_neg c]
        show (if rpxOk (.tup xs) = true then some (M.d (.str (rpx (.tup xs)))) else none) = _
        rw [if_pos c2]
      · refine ⟨rpz (.tup xs), ?_⟩
        have e : reprF (.tup xs) = none := by
          have : reprE (.tup xs) = none := by
            unfold reprE
            rw [reprD_t, if_neg c]
            show (if rpxOk (.tup xs) = true then some (M.d (.str (rpx (.tup xs)))) else none) = _
            rw [if_neg c2]
          unfold reprF
          rw [this]
        unfold reprG
        rw [e]
        show (if rpzOk (.tup xs) = true then some (M.d (.str (rpz (.tup xs)))) else none) = _
        rw [if_pos ok]
  | lst xs =>
    by_cases c : rpOk (.lst xs) = true
    · exact ⟨_, reprG_of (reprF_of (reprE_of (by rw [reprD_l, if_pos c])))⟩
    · have e0 : reprE (.lst xs) = none := by
        unfold reprE
        rw [reprD_l, if_neg c]
        rfl
      by_cases c2 : rpkOk xs = true
      · refine ⟨rpk xs, reprG_of ?_⟩
        unfold reprF
        rw [e0]
        show (if rpkOk xs = true then some (M.d (.str (rpk xs))) else none) = _
        rw [if_pos c2]
      · refine ⟨rpz (.lst xs), ?_⟩
        have e : reprF (.lst xs) = none := by
          unfold reprF
          rw [e0]
          show (if rpkOk xs = true then some (M.d (.str (rpk xs))) else none) = _
          rw [if_neg c2]
        unfold reprG
        rw [e]
        show (if rpzOk (.lst xs) = true then some (M.d (.str (rpz (.lst xs)))) else none) = _
        rw [if_pos ok]
  | dk kvs =>
    have h : kvs.isEmpty = true := h
    refine ⟨PyData.shown (.dict []), reprG_of ?_⟩
    show (if kvs.isEmpty = true then some (M.d (.str (PyData.shown (.dict [])))) else none) = _
    rw [if_pos h]
  | _ => cases h
/-! the things, and what is shown -/
noncomputable def TH : List D := [.int 0, .int 7, .int 1000000000000000000000000000000, .int (-1), .str "", .str "a", .str "some words", .tup [.int 1, .int 2], .tup [.str "f", .int 3, .int 1], .lst [], .lst [.int 1, .str "a"], .non, .bl true]
theorem TH_sp : ∀ a ∈ TH, a.sp = true ∧ a.wz ≤ 6 ∧ a.dep ≤ 2 := by
  have h : (TH.all fun a => a.sp && decide (a.wz ≤ 6) && decide (a.dep ≤ 2)) = true := by decide +kernel
  intro a ha
  have h := List.all_eq_true.mp h a ha
  rw [Bool.and_eq_true, Bool.and_eq_true] at h
  exact ⟨h.1.1, of_decide_eq_true h.1.2, of_decide_eq_true h.2⟩
theorem rep_ok {a b : D} (ha : a ∈ TH) (hb : b ∈ TH) : ∃ z, reprG (.lst (dueL a b)) = some (.d (.str z)) := by
  obtain ⟨a1, a2, a3⟩ := TH_sp a ha
  obtain ⟨b1, b2, b3⟩ := TH_sp b hb
  refine reprG_sp ?_ ?_ ?_
  · show D.sps (dueL a b) = true
    rw [sps_iff]
    intro x hx
    have : x = a ∨ x = b := by
      unfold dueL at hx
      simp only [List.mem_cons, List.not_mem_nil, or_false] at hx
      rcases hx with e | e | e | e | e | e | e | e | e | e | e | e | e | e | e | e <;> simp [e]
    rcases this with rfl | rfl
    · exact a1
    · exact b1
  · show D.wzs (dueL a b) + 1 ≤ 10000
    simp only [dueL, D.wzs]
    omega
  · show D.deps (dueL a b) + 1 ≤ 100
    simp only [dueL, D.deps]
    omega
theorem thing_wp (n : Nat) (g : Bag) (hg : g.Ok) {Q : M → List (Option M) → Prop} (h : ∀ (d : D) (g' : Bag), d ∈ TH → g'.Ok → Q (.d d) [some g'.enc]) : (den (n + 2) "_law_thing" [g.enc]).wp Q := by
  rw [den__law_thing]
  refine run_wp rfl ?_
  unfold b__law_thing
  simp -dsimp [List.replicate, den__law_take]
  refine take_wp _ g _ hg (by decide) (by decide) fun v g v0 v1 hg => ?_
  have e : ∃ d, atI TH v = some d ∧ d ∈ TH := by
    obtain ⟨k, rfl⟩ := Int.eq_ofNat_of_zero_le v0
    have hk : k < TH.length := by show k < 13; omega
    exact ⟨TH[k], atI_ok (by omega) (by rw [Int.toNat_natCast, List.getElem?_eq_getElem hk]), List.getElem_mem hk⟩
  obtain ⟨d, e, hd⟩ := e
  unfold TH at e
  simp -dsimp [e]
  exact h d g hd hg
theorem lcL_ts {α : Type} {own : List Nat} {g : FG} {fe : FE} (a b : α → D) (S0 : SS) : ∀ (ts : List α) (S : SS) (acc : List D), wipeS S own = S0 →
    (∀ t ∈ ts, ∃ S2, g (a t) S0 = some S2 ∧ (fe S2).wp fun o S4 => ∃ S5, force o S4 = some (b t, S5) ∧ wipeS S5 own = S0) →
    acc.length + ts.length ≤ line → ∃ S', lcL own g tTrue fe (ts.map a) S acc = .ok (acc ++ ts.map b) S' ∧ wipeS S' own = S0
  | [], S, acc, hS, _, _ => ⟨S, by simp [lcL], hS⟩
  | x :: ts, S, acc, hS, h, hl => by
    obtain ⟨S2, h1, h2⟩ := h x (List.mem_cons_self ..)
    have hr := fun y hy => h y (List.mem_cons_of_mem _ hy)
    simp only [List.length_cons] at hl
    obtain ⟨o, S4, e, S5, h3, h4⟩ := R.wp_ok' h2
    show ∃ S', (match g (a x) (wipeS S own) with
      | none => R.no
      | some S1 => (tTrue S1).bind fun b S2 => if b = true then (fe S2).bind fun o S3 => (match force o S3 with
          | some (x, S4) => if acc.length < line then lcL own g tTrue fe (ts.map a) S4 (acc ++ [x]) else .no
          | none => .no) else lcL own g tTrue fe (ts.map a) S2 acc) = _ ∧ wipeS S' own = S0
    rw [hS, h1]
    dsimp only
    have et : tTrue S2 = .ok true S2 := rfl
    rw [et, bind_ok, if_pos rfl, e, bind_ok, h3]
    dsimp only
    rw [if_pos (Nat.lt_of_lt_of_le (show acc.length < acc.length + (ts.length + 1) by omega) hl)]
    obtain ⟨S', e1, e2⟩ := lcL_ts a b S0 ts S5 (acc ++ [b x]) h4 hr (by rw [List.length_append, List.length_singleton]; omega)
    exact ⟨S', by rw [e1]; simp, e2⟩
theorem mLc_ts {α : Type} {own : List Nat} {fi : FI} {g : FG} {fe : FE} {S S1 : SS} {ts : List α} (a b : α → D) (h : fi S = .ok (ts.map a) S1)
    (hs : ∀ t ∈ ts, ∃ S2, g (a t) (wipeS S1 own) = some S2 ∧ (fe S2).wp fun o S4 => ∃ S5, force o S4 = some (b t, S5) ∧ wipeS S5 own = wipeS S1 own)
    (hl : ts.length ≤ line) : mLc own fi g tTrue fe S = .ok (.lst (ts.map b)) (restS S1 S1 own) := by
  unfold mLc
  rw [h, bind_ok]
  obtain ⟨S', e1, e2⟩ := lcL_ts a b (wipeS S1 own) ts S1 [] rfl hs (by simpa using hl)
  rw [e1, bind_ok, List.nil_append]
  rw [← restS_wipe S1 S', e2, restS_wipe]
theorem flag_row : ∀ k : Nat, k < 16 → (CN.map fun d => decide (CN.getD k "" = d)) = (List.range 16).map fun j => decide (j = k) := by decide +kernel
theorem ex_at (a b : D) (k : Nat) (hk : k < 16) : ∃ fs, atI (exL a b) (k : Int) = some (.xo (CN.getD k "") fs) ∧ CN.getD k "" ∈ CN := by
  have h : k = 0 ∨ k = 1 ∨ k = 2 ∨ k = 3 ∨ k = 4 ∨ k = 5 ∨ k = 6 ∨ k = 7 ∨ k = 8 ∨ k = 9 ∨ k = 10 ∨ k = 11 ∨ k = 12 ∨ k = 13 ∨ k = 14 ∨ k = 15 := by omega
  have m : ∀ k : Nat, k < 16 → CN.getD k "" ∈ CN := by decide +kernel
  rcases h with e | e | e | e | e | e | e | e | e | e | e | e | e | e | e | e <;> subst e <;> exact ⟨_, rfl, m _ hk⟩
theorem in_melt : inD (.bl true) (.lst ((CN.map fun _ => false).map .bl)) = some (.d (.bl false)) := rfl
theorem lc_j (k : Nat) (a0 a1 a2 a3 a4 a6 a7 a8 : Option M) : mLc [9] (iRng1 (eC (.int 16))) (gN 9) tTrue (eM (mBin eqD (eN 9) (eN 5))) [a0, a1, a2, a3, a4, some (.d (.int (k : Int))), a6, a7, a8, none] = .ok (.lst (((List.range 16).map fun j => decide (j = k)).map .bl)) [a0, a1, a2, a3, a4, some (.d (.int (k : Int))), a6, a7, a8, none] := by
  have e2 := mLc_ts (own := [9]) (fi := iRng1 (eC (.int 16))) (g := gN 9) (fe := eM (mBin eqD (eN 9) (eN 5))) (S := [a0, a1, a2, a3, a4, some (.d (.int (k : Int))), a6, a7, a8, none]) (S1 := [a0, a1, a2, a3, a4, some (.d (.int (k : Int))), a6, a7, a8, none]) (ts := List.range 16) (fun j : Nat => .int (j : Int)) (fun j : Nat => .bl (decide (j = k))) (by
    have er : rangeD 0 16 = (List.range 16).map fun j : Nat => D.int (j : Int) := by
      unfold rangeD
      exact List.map_congr_left fun j _ => by rw [Int.zero_add]
    rw [iRng1_ap]
    simp -dsimp [er]) (by
    intro j hj
    refine ⟨[a0, a1, a2, a3, a4, some (.d (.int (k : Int))), a6, a7, a8, some (.d (.int (j : Int)))], rfl, ?_⟩
    by_cases c : j = k
    · subst c
      simp -dsimp [wipeS]
    · have c2 : ¬ ((j : Int) = (k : Int)) := by omega
      simp -dsimp [wipeS, c, c2]) (by rw [List.length_range]; decide)
  rw [e2, List.map_map]
  rfl
theorem main (ns : List Int) (hl : ns.length ≤ 63) : ∃ fin, g_law (den 100) [.d (scrD ns)] = .ok (.d (.bl true)) fin := by
  obtain ⟨g, hg, hb⟩ := bag_eq (den 99) ns hl
  suffices h : (g_law (den 100) [.d (scrD ns)]).wp fun r _ => r = .d (.bl true) by
    obtain ⟨a, S, e, h⟩ := CR.wp_ok h
    exact ⟨S, by rw [e, h]⟩
  refine run_wp rfl ?_
  unfold b_law
  obtain ⟨sd, hsd⟩ : ∃ x, x = scrD ns := ⟨_, rfl⟩
  rw [← hsd] at hb ⊢
  simp -dsimp [List.replicate, den__law_bag, hb]
  obtain ⟨I, hI⟩ : ∃ I : List D → List D → SS → Prop, I = fun ds acc S => ∃ (g : Bag) (s5 : Option Ev.M) (ps : List (D × D)), g.Ok ∧ (∀ p ∈ ps, p.1 ∈ TH ∧ p.2 ∈ TH) ∧ acc = ps.map (fun p => D.tup [p.1, p.2]) ∧ ps.length + ds.length = 2 ∧ S = [some (.d sd), some g.enc, none, none, none, s5, none, none, none, none] := ⟨_, rfl⟩
  refine wp_lc (ds := rangeD 0 2) (S1 := [some (.d sd), some g.enc, none, none, none, none, none, none, none, none]) I (by simp -dsimp) (by
    rw [hI]
    exact ⟨g, _, [], hg, fun p hp => absurd hp (by simp), rfl, rfl, rfl⟩) ?_ ?_
  · intro d ds acc S hS
    rw [hI] at hS
    obtain ⟨g, s5, ps, hg, hps, rfl, hl2, rfl⟩ := hS
    rw [List.length_cons] at hl2
    have la : (ps.map fun p => D.tup [p.1, p.2]).length = ps.length := List.length_map ..
    refine ⟨[some (.d sd), some g.enc, none, none, none, some (.d d), none, none, none, none], rfl, ?_⟩
    simp -dsimp [tTrue]
    refine thing_wp 98 g hg fun a g ha hg => ?_
    simp -dsimp
    refine thing_wp 98 g hg fun b g hb hg => ?_
    simp -dsimp [la, show ps.length < 16777216 by omega]
    refine ⟨_, _, ⟨rfl, rfl⟩, ?_⟩
    rw [hI]
    refine ⟨g, _, ps ++ [(a, b)], hg, fun p hp => ?_, by rw [List.map_append]; rfl, by rw [List.length_append, List.length_singleton]; omega, rfl⟩
    rcases List.mem_append.mp hp with h | h
    · exact hps p h
    · rw [List.mem_singleton.mp h]; exact ⟨ha, hb⟩
  intro acc S hS
  rw [hI] at hS
  obtain ⟨g, s5, ps, hg, hps, rfl, hl2, rfl⟩ := hS
  have hl2 : ps.length = 2 := hl2
  obtain ⟨p0, p1, rfl⟩ : ∃ p0 p1, ps = [p0, p1] := by
    match ps, hl2 with
    | [p0, p1], _ => exact ⟨p0, p1, rfl⟩
  obtain ⟨a0, b0⟩ := p0
  obtain ⟨a1, b1⟩ := p1
  obtain ⟨h0, k0⟩ : a0 ∈ TH ∧ b0 ∈ TH := hps _ (List.mem_cons_self ..)
  obtain ⟨h1, k1⟩ : a1 ∈ TH ∧ b1 ∈ TH := hps _ (List.mem_cons_of_mem _ (List.mem_cons_self ..))
  have m0 := made_eq 99 a0 b0
  have m1 := made_eq 99 a1 b1
  have t0 := told_eq 99 a0 b0
  have t1 := told_eq 99 a1 b1
  obtain ⟨z0, r0⟩ := rep_ok h0 k0
  obtain ⟨z1, r1⟩ := rep_ok h1 k1
  have ea := ex_at a0 b0
  have eb := ex_at a1 b1
  obtain ⟨X0, hX0⟩ : ∃ X, X = exL a0 b0 := ⟨_, rfl⟩
  obtain ⟨X1, hX1⟩ : ∃ X, X = exL a1 b1 := ⟨_, rfl⟩
  rw [← hX0] at m0 t0 ea
  rw [← hX1] at m1 t1 eb
  have rs : ∀ g0 : Bag, restS [some (.d sd), some g0.enc, none, none, none, none, none, none, none, none] [some (.d sd), some g.enc, none, none, none, s5, none, none, none, none] [5] = [some (.d sd), some g.enc, none, none, none, none, none, none, none, none] := fun _ => rfl
  rw [rs]
  have lc : mLc [7, 8] (iSeq (eN 2)) (gT 2 (gsCons (gN 7) (gsCons (gN 8) gsNil))) tTrue (eM (mCall (den 100 "_law_made") (aCons (eN 7) (aCons (eN 8) aNil)))) [some (.d sd), some g.enc, some (.lst [.tup [a0, b0], .tup [a1, b1]]), none, none, none, none, none, none, none] = .ok (.lst [.lst X0, .lst X1]) [some (.d sd), some g.enc, some (.d (.lst [.tup [a0, b0], .tup [a1, b1]])), none, none, none, none, none, none, none] := by
    unfold mLc
    simp -dsimp [lcL, tTrue, line_val, wipeS, restS, keepD, m0, m1]
  simp -dsimp [lc]
  obtain ⟨J, hJ⟩ : ∃ J : SS → Prop, J = fun S => ∃ s4 s5, S = [some (.d sd), some g.enc, some (.d (.lst [.tup [a0, b0], .tup [a1, b1]])), some (.d (.lst [.lst X0, .lst X1])), s4, s5, none, none, none, none] := ⟨_, rfl⟩
  obtain ⟨xm1, xm2, xm3⟩ := xcs_all
  have fm := flags_gen 99 "MeltError" [] xm2 (fun _ => false) isa_melt.2
  obtain ⟨FM, hFM⟩ : ∃ L, L = (CN.map fun _ => false).map D.bl := ⟨_, rfl⟩
  have im := in_melt
  rw [← hFM] at fm im
  refine wp_for1 (fun d => ∃ X : List D, d = .lst X ∧ ∀ k : Nat, k < 16 → ∃ fs, atI X (k : Int) = some (.xo (CN.getD k "") fs) ∧ CN.getD k "" ∈ CN) J (fun d hd => ?_) (by rw [hJ]; exact ⟨_, _, rfl⟩) ?_ ?_
  · rcases List.mem_cons.mp hd with rfl | hd
    · exact ⟨X0, rfl, ea⟩
    · rw [List.mem_singleton.mp hd]; exact ⟨X1, rfl, eb⟩
  · rintro d S ⟨X, rfl, ex⟩ hS
    rw [hJ] at hS
    obtain ⟨s4, s5, rfl⟩ := hS
    refine ⟨[some (.d sd), some g.enc, some (.d (.lst [.tup [a0, b0], .tup [a1, b1]])), some (.d (.lst [.lst X0, .lst X1])), some (.d (.lst X)), s5, none, none, none, none], rfl, ?_⟩
    simp -dsimp
    obtain ⟨K, hK⟩ : ∃ K : SS → Prop, K = fun S => ∃ s5, S = [some (.d sd), some g.enc, some (.d (.lst [.tup [a0, b0], .tup [a1, b1]])), some (.d (.lst [.lst X0, .lst X1])), some (.d (.lst X)), s5, none, none, none, none] := ⟨_, rfl⟩
    refine wp_for1 (fun d => ∃ k : Nat, d = .int k ∧ k < 16) K (fun d hd => ?_) (by rw [hK]; exact ⟨_, rfl⟩) ?_ ?_
    · obtain ⟨k, rfl, k0, k1⟩ := rangeD_mem _ _ _ hd
      exact ⟨k.toNat, by rw [Int.toNat_of_nonneg k0], by omega⟩
    · rintro d S ⟨k, rfl, hk⟩ hS
      rw [hK] at hS
      obtain ⟨s5, rfl⟩ := hS
      refine ⟨[some (.d sd), some g.enc, some (.d (.lst [.tup [a0, b0], .tup [a1, b1]])), some (.d (.lst [.lst X0, .lst X1])), some (.d (.lst X)), some (.d (.int (k : Int))), none, none, none, none], rfl, ?_⟩
      obtain ⟨fs, hat, hc⟩ := ex k hk
      have fr := flag_row k hk
      have im := isa_melt.1 _ hc
      obtain ⟨c1, c2⟩ := xm1 _ hc
      have fl := flags_gen 99 (CN.getD k "") fs c1 (fun d => decide (CN.getD k "" = d)) (isa_all _ hc)
      rw [fr] at fl
      have lj := lc_j k (some (.d sd)) (some g.enc) (some (.d (.lst [.tup [a0, b0], .tup [a1, b1]]))) (some (.d (.lst [.lst X0, .lst X1]))) (some (.d (.lst X))) none none none
      have bn := bls_ne ((List.range 16).map fun j => decide (j = k))
      obtain ⟨c, hcc⟩ : ∃ c, c = CN.getD k "" := ⟨_, rfl⟩
      obtain ⟨B, hB⟩ : ∃ B, B = ((List.range 16).map fun j => decide (j = k)).map D.bl := ⟨_, rfl⟩
      rw [← hB] at fl lj bn
      rw [← hcc] at hat im c1 c2 fl
      simp -dsimp [-neD_ap, hat, im, c1, c2, fl, lj, bn]
      rw [hK]
      exact ⟨_, rfl⟩
    · intro S hS
      rw [hK] at hS
      obtain ⟨s5, rfl⟩ := hS
      simp -dsimp
      rw [hJ]
      exact ⟨_, _, rfl⟩
  · intro S hS
    rw [hJ] at hS
    obtain ⟨s4, s5, rfl⟩ := hS
    unfold dueL at r0 r1 t0 t1
    simp -dsimp [fm, im, xm2, xm3]
    obtain ⟨K, hK⟩ : ∃ K : SS → Prop, K = fun S => ∃ s4 s5 s6 s7 s8, S = [some (.d sd), some g.enc, some (.d (.lst [.tup [a0, b0], .tup [a1, b1]])), some (.d (.lst [.lst X0, .lst X1])), s4, s5, s6, s7, s8, none] := ⟨_, rfl⟩
    refine wp_for1 (fun d => d = .int 0 ∨ d = .int 1) K (fun d hd => by
      have hd : d = .int 0 ∨ d = .int 1 ∨ d = .int 0 := by simpa using hd
      rcases hd with h | h | h
      · exact .inl h
      · exact .inr h
      · exact .inl h) (by rw [hK]; exact ⟨_, _, _, _, _, rfl⟩) ?_ ?_
    · rintro d S hd hS
      rw [hK] at hS
      obtain ⟨s4, s5, s6, s7, s8, rfl⟩ := hS
      refine ⟨[some (.d sd), some g.enc, some (.d (.lst [.tup [a0, b0], .tup [a1, b1]])), some (.d (.lst [.lst X0, .lst X1])), s4, some (.d d), s6, s7, s8, none], rfl, ?_⟩
      rcases hd with rfl | rfl
      · simp -dsimp [t0, r0]
        rw [hK]
        exact ⟨_, _, _, _, _, rfl⟩
      · simp -dsimp [t1, r1]
        rw [hK]
        exact ⟨_, _, _, _, _, rfl⟩
    · intro S hS
      rw [hK] at hS
      obtain ⟨s4, s5, s6, s7, s8, rfl⟩ := hS
      simp -dsimp
end Ev
open PySem PySem.W PyProof.Rows
set_option maxHeartbeats 0 in
theorem PySem.Challenge.cw_callmelt_k18_refusals_apart_holds : PySem.Challenge.rw_callmelt_k18_refusals_apart.Holds := by
  w_on; o_law; k_head; (case hw => w_witness2)
  k_fill
  refine Ev.walk_g (l := PySem.Challenge.rw_callmelt_k18_refusals_apart) (n := 63) (k := 100 + 3) (x := "_law_script") (sp := fun w => Ev.spA _ 1 (Ev.g_law (Ev.den 100))) rfl (by decide) rfl ⟨⟨rfl, by decide, by decide⟩, rfl⟩ (fun w h Y => PySem.W.kIn_of Y) ?F (fun _ H a ns hl hO hS => Ev.law_sp hO hS (Ev.main ns hl))
  case F =>
    intro w mg fa h KX G hmg
    refine' Ev.all_mk KX G hmg ?a1 ?l1 ?c1 ?k1 ?a2 ?l2 ?c2 ?k2 ?a3 ?l3 ?c3 ?k3 ?a4 ?l4 ?c4 ?k4 ?a5 ?l5 ?c5 ?k5 ?a6 ?l6 ?c6 ?k6 ?a7 ?l7 ?c7 ?k7 ?xa0 ?xs0 ?xt0 ?xd0 ?xo0 ?xv0 ?xk0 ?xg0 ?xh0 ?xc0 ?xm0 ?xw0 ?xL0 ?yrV0 ?xI0 ?xT0 ?xl_0 ?xC0 ?xK0 ?xn_where0 ?xn_word0 ?xa1 ?xs1 ?xt1 ?xd1 ?xo1 ?xv1 ?xk1 ?xg1 ?xh1 ?xc1 ?xm1 ?xw1 ?xL1 ?yrV1 ?xI1 ?xT1 ?xl_1 ?xC1 ?xK1 ?xn_at1 ?xa2 ?xs2 ?xt2 ?xd2 ?xo2 ?xv2 ?xk2 ?xg2 ?xh2 ?xc2 ?xm2 ?xw2 ?xL2 ?yrV2 ?xI2 ?xT2 ?xl_2 ?xC2 ?xK2 ?xn_at2 ?xa3 ?xs3 ?xt3 ?xd3 ?xo3 ?xv3 ?xk3 ?xg3 ?xh3 ?xc3 ?xm3 ?xw3 ?xL3 ?yrV3 ?xI3 ?xT3 ?xl_3 ?xC3 ?xK3 ?xn_at3 ?xa4 ?xs4 ?xt4 ?xd4 ?xo4 ?xv4 ?xk4 ?xg4 ?xh4 ?xc4 ?xm4 ?xw4 ?xL4 ?yrV4 ?xI4 ?xT4 ?xl_4 ?xC4 ?xK4 ?xn_number4 ?xa5 ?xs5 ?xt5 ?xd5 ?xo5 ?xv5 ?xk5 ?xg5 ?xh5 ?xc5 ?xm5 ?xw5 ?xL5 ?yrV5 ?xI5 ?xT5 ?xl_5 ?xC5 ?xK5 ?xn_where5 ?xn_word5 ?xa6 ?xs6 ?xt6 ?xd6 ?xo6 ?xv6 ?xk6 ?xg6 ?xh6 ?xc6 ?xm6 ?xX6 ?xr6 ?xy6 ?xz6 ?xa7 ?xs7 ?xt7 ?xd7 ?xo7 ?xv7 ?xk7 ?xg7 ?xh7 ?xc7 ?xm7 ?xw7 ?xL7 ?yrV7 ?xI7 ?xT7 ?xl_7 ?xC7 ?xK7 ?xn_at7 ?xa8 ?xs8 ?xt8 ?xd8 ?xo8 ?xv8 ?xk8 ?xg8 ?xh8 ?xc8 ?xm8 ?xw8 ?xL8 ?yrV8 ?xI8 ?xT8 ?xl_8 ?xC8 ?xK8 ?xn_name8 ?xa9 ?xs9 ?xt9 ?xd9 ?xo9 ?xv9 ?xk9 ?xg9 ?xh9 ?xc9 ?xm9 ?xw9 ?xL9 ?yrV9 ?xI9 ?xT9 ?xl_9 ?xC9 ?xK9 ?xn_path9 ?xa10 ?xs10 ?xt10 ?xd10 ?xo10 ?xv10 ?xk10 ?xg10 ?xh10 ?xc10 ?xm10 ?xX10 ?xa11 ?xs11 ?xt11 ?xd11 ?xo11 ?xv11 ?xk11 ?xg11 ?xh11 ?xc11 ?xm11 ?xX11 ?xa12 ?xs12 ?xt12 ?xd12 ?xo12 ?xv12 ?xk12 ?xg12 ?xh12 ?xc12 ?xm12 ?xX12 ?xa13 ?xs13 ?xt13 ?xd13 ?xo13 ?xv13 ?xk13 ?xg13 ?xh13 ?xc13 ?xm13 ?xw13 ?xL13 ?yrV13 ?xI13 ?xT13 ?xl_13 ?xC13 ?xK13 ?xn_at13 ?xa14 ?xs14 ?xt14 ?xd14 ?xo14 ?xv14 ?xk14 ?xg14 ?xh14 ?xc14 ?xm14 ?xw14 ?xL14 ?yrV14 ?xI14 ?xT14 ?xl_14 ?xC14 ?xK14 ?xn_number14 ?xa15 ?xs15 ?xt15 ?xd15 ?xo15 ?xv15 ?xk15 ?xg15 ?xh15 ?xc15 ?xm15 ?xw15 ?xL15 ?yrV15 ?xI15 ?xT15 ?xl_15 ?xC15 ?xK15 ?xn_name15 ?xa16 ?xs16 ?xt16 ?xd16 ?xo16 ?xv16 ?xk16 ?xg16 ?xh16 ?xc16 ?xm16 ?xw16 ?xL16 ?yrV16 ?xI16 ?xT16 ?xl_16 ?xC16 ?xK16 ?xn_where16 ?xn_many16 ?xgA ?xgB ?xP0 ?xP1 ?xP2 ?xP3 ?xP4 ?xP5 ?xP6 ?xP7 ?xP8 ?xP9 ?xP10 ?xP11 ?xP12 ?xP13 ?xP14 ?xP15 ?xP16 ?xP17 ?xP18 ?xP19 ?xP20 ?xP21 ?xP22 ?xP23 ?xP24 ?xP25 ?xP26 ?xP27 ?xP28 ?xP29 ?xP30 ?xP31 ?xP32 ?xP33 ?xP34 ?xP35 ?xP36 ?xP37 ?xP38 ?xP39 ?xP40 ?xP41 ?xP42 ?xP43 ?xP44 ?xP45 ?xP46 ?xP47 ?xP48 ?xP49 ?xP50 ?xP51 ?xP52 ?xP53 ?xP54 ?xP55 ?xP56 ?xP57 ?xP58 ?xP59 ?xP60 ?xP61 ?xP62 ?xP63 ?xP64 ?xP65 ?xP66 ?xP67 ?xP68 ?xP69 ?xP70 ?xP71 ?xP72 ?xP73 ?xP74 ?xP75 ?xP76 ?xP77 ?xP78 ?xP79 ?xP80 ?xP81 ?xP82 ?xP83 ?xP84 ?xP85 ?xP86 ?xP87 ?xP88 ?xP89 ?xP90 ?xP91 ?xP92 ?xP93 ?xP94 ?xP95 ?xP96 ?xP97 ?xP98 ?xP99 ?xP100 ?xP101 ?xP102 ?xP103 ?xP104 ?xP105 ?xP106 ?xP107 ?xP108 ?xP109 ?xP110 ?xP111 ?xP112 ?xP113 ?xP114 ?xP115 ?xP116 ?xP117 ?xP118 ?xP119 ?xP120 ?xP121 ?xP122 ?xP123 ?xP124 ?xP125 ?xP126 ?xP127 ?xP128 ?xP129 ?xP130 ?xP131 ?xP132 ?xP133 ?xP134 ?xP135 ?xP136 ?xP137 ?xP138 ?xP139 ?xP140 ?xP141 ?xP142 ?xP143 ?xP144 ?xP145 ?xP146 ?xP147 ?xP148 ?xP149 ?xP150 ?xP151 ?xP152 ?xP153 ?xP154 ?xP155 ?xP156 ?xP157 ?xP158 ?xP159 ?xP160 ?xP161 ?xP162 ?xP163 ?xP164 ?xP165 ?xP166 ?xP167 ?xP168 ?xP169 ?xP170 ?xP171 ?xP172 ?xP173 ?xP174 ?xP175 ?xP176 ?xP177 ?xP178 ?xP179 ?xP180 ?xP181 ?xP182 ?xP183 ?xP184 ?xP185 ?xP186 ?xP187 ?xP188 ?xP189 ?xP190 ?xP191 ?xP192 ?xP193 ?xP194 ?xP195 ?xP196 ?xP197 ?xP198 ?xP199 ?xP200 ?xP201 ?xP202 ?xP203 ?xP204 ?xP205 ?xP206 ?xP207 ?xP208 ?xP209 ?xP210 ?xP211 ?xP212 ?xP213 ?xP214 ?xP215 ?xP216 ?xP217 ?xP218 ?xP219 ?xP220 ?xP221 ?xP222 ?xP223 ?xP224 ?xP225 ?xP226 ?xP227 ?xP228 ?xP229 ?xP230 ?xP231 ?xP232 ?xP233 ?xP234 ?xP235 ?xP236 ?xP237 ?xP238 ?xP239 ?xP240 ?xP241 ?xP242 ?xP243 ?xP244 ?xP245 ?xP246 ?xP247 ?xP248 ?xP249 ?xP250 ?xP251 ?xP252 ?xP253 ?xP254 ?xP255 ?xP256 ?xP257 ?xP258 ?xP259 ?xP260 ?xP261 ?xP262 ?xP263 ?xP264 ?xP265 ?xP266 ?xP267 ?xP268 ?xP269 ?xP270 ?xP271 ?xP272 ?xP273 ?xP274 ?xP275 ?xP276 ?xP277 ?xP278 ?xP279 ?xP280 ?xP281 ?xP282 ?xP283 ?xP284 ?xP285 ?xP286 ?xP287 ?xP288 ?z1 ?z2 ?z3 ?z4 ?z5 ?z6
    (case a1 => k_is); (case l1 => k_is); (case c1 => k_is); (case k1 => k_is); (case a2 => k_is); (case l2 => k_is); (case c2 => k_is); (case k2 => k_is); (case a3 => k_is); (case l3 => k_is); (case c3 => k_is); (case k3 => k_is); (case a4 => k_is); (case l4 => k_is); (case c4 => k_is); (case k4 => k_is); (case a5 => k_is); (case l5 => k_is); (case c5 => k_is); (case k5 => k_is); (case a6 => k_is); (case l6 => k_is); (case c6 => k_is); (case k6 => k_is); (case a7 => k_is); (case l7 => k_is); (case c7 => k_is); (case k7 => k_is); (case xa0 => k_is); (case xs0 => k_is); (case xt0 => k_is); (case xd0 => k_is); (case xo0 => k_is); (case xv0 => k_is); (case xk0 => k_is); (case xg0 => k_is); (case xh0 => k_is); (case xc0 => k_is); (case xm0 => k_is); (case xw0 => k_is); (case xL0 => k_is); (case yrV0 => rfl); (case xI0 => k_is); (case xT0 => k_is); (case xl_0 => k_is); (case xC0 => k_is); (case xK0 => k_is); (case xn_where0 => k_is); (case xn_word0 => k_is); (case xa1 => k_is); (case xs1 => k_is); (case xt1 => k_is); (case xd1 => k_is); (case xo1 => k_is); (case xv1 => k_is); (case xk1 => k_is); (case xg1 => k_is); (case xh1 => k_is); (case xc1 => k_is); (case xm1 => k_is); (case xw1 => k_is); (case xL1 => k_is); (case yrV1 => rfl); (case xI1 => k_is); (case xT1 => k_is); (case xl_1 => k_is); (case xC1 => k_is); (case xK1 => k_is); (case xn_at1 => k_is); (case xa2 => k_is); (case xs2 => k_is); (case xt2 => k_is); (case xd2 => k_is); (case xo2 => k_is); (case xv2 => k_is); (case xk2 => k_is); (case xg2 => k_is); (case xh2 => k_is); (case xc2 => k_is); (case xm2 => k_is); (case xw2 => k_is); (case xL2 => k_is); (case yrV2 => rfl); (case xI2 => k_is); (case xT2 => k_is); (case xl_2 => k_is); (case xC2 => k_is); (case xK2 => k_is); (case xn_at2 => k_is); (case xa3 => k_is); (case xs3 => k_is); (case xt3 => k_is); (case xd3 => k_is); (case xo3 => k_is); (case xv3 => k_is); (case xk3 => k_is); (case xg3 => k_is); (case xh3 => k_is); (case xc3 => k_is); (case xm3 => k_is); (case xw3 => k_is); (case xL3 => k_is); (case yrV3 => rfl); (case xI3 => k_is); (case xT3 => k_is); (case xl_3 => k_is); (case xC3 => k_is); (case xK3 => k_is); (case xn_at3 => k_is); (case xa4 => k_is); (case xs4 => k_is); (case xt4 => k_is); (case xd4 => k_is); (case xo4 => k_is); (case xv4 => k_is); (case xk4 => k_is); (case xg4 => k_is); (case xh4 => k_is); (case xc4 => k_is); (case xm4 => k_is); (case xw4 => k_is); (case xL4 => k_is); (case yrV4 => rfl); (case xI4 => k_is); (case xT4 => k_is); (case xl_4 => k_is); (case xC4 => k_is); (case xK4 => k_is); (case xn_number4 => k_is); (case xa5 => k_is); (case xs5 => k_is); (case xt5 => k_is); (case xd5 => k_is); (case xo5 => k_is); (case xv5 => k_is); (case xk5 => k_is); (case xg5 => k_is); (case xh5 => k_is); (case xc5 => k_is); (case xm5 => k_is); (case xw5 => k_is); (case xL5 => k_is); (case yrV5 => rfl); (case xI5 => k_is); (case xT5 => k_is); (case xl_5 => k_is); (case xC5 => k_is); (case xK5 => k_is); (case xn_where5 => k_is); (case xn_word5 => k_is); (case xa6 => k_is); (case xs6 => k_is); (case xt6 => k_is); (case xd6 => k_is); (case xo6 => k_is); (case xv6 => k_is); (case xk6 => k_is); (case xg6 => k_is); (case xh6 => k_is); (case xc6 => k_is); (case xm6 => k_is); (case xX6 => k_exc); (case xr6 => k_is); (case xy6 => k_is); (case xz6 => k_is); (case xa7 => k_is); (case xs7 => k_is); (case xt7 => k_is); (case xd7 => k_is); (case xo7 => k_is); (case xv7 => k_is); (case xk7 => k_is); (case xg7 => k_is); (case xh7 => k_is); (case xc7 => k_is); (case xm7 => k_is); (case xw7 => k_is); (case xL7 => k_is); (case yrV7 => rfl); (case xI7 => k_is); (case xT7 => k_is); (case xl_7 => k_is); (case xC7 => k_is); (case xK7 => k_is); (case xn_at7 => k_is); (case xa8 => k_is); (case xs8 => k_is); (case xt8 => k_is); (case xd8 => k_is); (case xo8 => k_is); (case xv8 => k_is); (case xk8 => k_is); (case xg8 => k_is); (case xh8 => k_is); (case xc8 => k_is); (case xm8 => k_is); (case xw8 => k_is); (case xL8 => k_is); (case yrV8 => rfl); (case xI8 => k_is); (case xT8 => k_is); (case xl_8 => k_is); (case xC8 => k_is); (case xK8 => k_is); (case xn_name8 => k_is); (case xa9 => k_is); (case xs9 => k_is); (case xt9 => k_is); (case xd9 => k_is); (case xo9 => k_is); (case xv9 => k_is); (case xk9 => k_is); (case xg9 => k_is); (case xh9 => k_is); (case xc9 => k_is); (case xm9 => k_is); (case xw9 => k_is); (case xL9 => k_is); (case yrV9 => rfl); (case xI9 => k_is); (case xT9 => k_is); (case xl_9 => k_is); (case xC9 => k_is); (case xK9 => k_is); (case xn_path9 => k_is); (case xa10 => k_is); (case xs10 => k_is); (case xt10 => k_is); (case xd10 => k_is); (case xo10 => k_is); (case xv10 => k_is); (case xk10 => k_is); (case xg10 => k_is); (case xh10 => k_is); (case xc10 => k_is); (case xm10 => k_is); (case xX10 => k_exc); (case xa11 => k_is); (case xs11 => k_is); (case xt11 => k_is); (case xd11 => k_is); (case xo11 => k_is); (case xv11 => k_is); (case xk11 => k_is); (case xg11 => k_is); (case xh11 => k_is); (case xc11 => k_is); (case xm11 => k_is); (case xX11 => k_exc); (case xa12 => k_is); (case xs12 => k_is); (case xt12 => k_is); (case xd12 => k_is); (case xo12 => k_is); (case xv12 => k_is); (case xk12 => k_is); (case xg12 => k_is); (case xh12 => k_is); (case xc12 => k_is); (case xm12 => k_is); (case xX12 => k_exc); (case xa13 => k_is); (case xs13 => k_is); (case xt13 => k_is); (case xd13 => k_is); (case xo13 => k_is); (case xv13 => k_is); (case xk13 => k_is); (case xg13 => k_is); (case xh13 => k_is); (case xc13 => k_is); (case xm13 => k_is); (case xw13 => k_is); (case xL13 => k_is); (case yrV13 => rfl); (case xI13 => k_is); (case xT13 => k_is); (case xl_13 => k_is); (case xC13 => k_is); (case xK13 => k_is); (case xn_at13 => k_is); (case xa14 => k_is); (case xs14 => k_is); (case xt14 => k_is); (case xd14 => k_is); (case xo14 => k_is); (case xv14 => k_is); (case xk14 => k_is); (case xg14 => k_is); (case xh14 => k_is); (case xc14 => k_is); (case xm14 => k_is); (case xw14 => k_is); (case xL14 => k_is); (case yrV14 => rfl); (case xI14 => k_is); (case xT14 => k_is); (case xl_14 => k_is); (case xC14 => k_is); (case xK14 => k_is); (case xn_number14 => k_is); (case xa15 => k_is); (case xs15 => k_is); (case xt15 => k_is); (case xd15 => k_is); (case xo15 => k_is); (case xv15 => k_is); (case xk15 => k_is); (case xg15 => k_is); (case xh15 => k_is); (case xc15 => k_is); (case xm15 => k_is); (case xw15 => k_is); (case xL15 => k_is); (case yrV15 => rfl); (case xI15 => k_is); (case xT15 => k_is); (case xl_15 => k_is); (case xC15 => k_is); (case xK15 => k_is); (case xn_name15 => k_is); (case xa16 => k_is); (case xs16 => k_is); (case xt16 => k_is); (case xd16 => k_is); (case xo16 => k_is); (case xv16 => k_is); (case xk16 => k_is); (case xg16 => k_is); (case xh16 => k_is); (case xc16 => k_is); (case xm16 => k_is); (case xw16 => k_is); (case xL16 => k_is); (case yrV16 => rfl); (case xI16 => k_is); (case xT16 => k_is); (case xl_16 => k_is); (case xC16 => k_is); (case xK16 => k_is); (case xn_where16 => k_is); (case xn_many16 => k_is); (case xgA => k_is); (case xgB => k_is); (case xP0 => k_is); (case xP1 => k_is); (case xP2 => k_is); (case xP3 => k_is); (case xP4 => k_is); (case xP5 => k_is); (case xP6 => k_is); (case xP7 => k_is); (case xP8 => k_is); (case xP9 => k_is); (case xP10 => k_is); (case xP11 => k_is); (case xP12 => k_is); (case xP13 => k_is); (case xP14 => k_is); (case xP15 => k_is); (case xP16 => k_is); (case xP17 => k_is); (case xP18 => k_is); (case xP19 => k_is); (case xP20 => k_is); (case xP21 => k_is); (case xP22 => k_is); (case xP23 => k_is); (case xP24 => k_is); (case xP25 => k_is); (case xP26 => k_is); (case xP27 => k_is); (case xP28 => k_is); (case xP29 => k_is); (case xP30 => k_is); (case xP31 => k_is); (case xP32 => k_is); (case xP33 => k_is); (case xP34 => k_is); (case xP35 => k_is); (case xP36 => k_is); (case xP37 => k_is); (case xP38 => k_is); (case xP39 => k_is); (case xP40 => k_is); (case xP41 => k_is); (case xP42 => k_is); (case xP43 => k_is); (case xP44 => k_is); (case xP45 => k_is); (case xP46 => k_is); (case xP47 => k_is); (case xP48 => k_is); (case xP49 => k_is); (case xP50 => k_is); (case xP51 => k_is); (case xP52 => k_is); (case xP53 => k_is); (case xP54 => k_is); (case xP55 => k_is); (case xP56 => k_is); (case xP57 => k_is); (case xP58 => k_is); (case xP59 => k_is); (case xP60 => k_is); (case xP61 => k_is); (case xP62 => k_is); (case xP63 => k_is); (case xP64 => k_is); (case xP65 => k_is); (case xP66 => k_is); (case xP67 => k_is); (case xP68 => k_is); (case xP69 => k_is); (case xP70 => k_is); (case xP71 => k_is); (case xP72 => k_is); (case xP73 => k_is); (case xP74 => k_is); (case xP75 => k_is); (case xP76 => k_is); (case xP77 => k_is); (case xP78 => k_is); (case xP79 => k_is); (case xP80 => k_is); (case xP81 => k_is); (case xP82 => k_is); (case xP83 => k_is); (case xP84 => k_is); (case xP85 => k_is); (case xP86 => k_is); (case xP87 => k_is); (case xP88 => k_is); (case xP89 => k_is); (case xP90 => k_is); (case xP91 => k_is); (case xP92 => k_is); (case xP93 => k_is); (case xP94 => k_is); (case xP95 => k_is); (case xP96 => k_is); (case xP97 => k_is); (case xP98 => k_is); (case xP99 => k_is); (case xP100 => k_is); (case xP101 => k_is); (case xP102 => k_is); (case xP103 => k_is); (case xP104 => k_is); (case xP105 => k_is); (case xP106 => k_is); (case xP107 => k_is); (case xP108 => k_is); (case xP109 => k_is); (case xP110 => k_is); (case xP111 => k_is); (case xP112 => k_is); (case xP113 => k_is); (case xP114 => k_is); (case xP115 => k_is); (case xP116 => k_is); (case xP117 => k_is); (case xP118 => k_is); (case xP119 => k_is); (case xP120 => k_is); (case xP121 => k_is); (case xP122 => k_is); (case xP123 => k_is); (case xP124 => k_is); (case xP125 => k_is); (case xP126 => k_is); (case xP127 => k_is); (case xP128 => k_is); (case xP129 => k_is); (case xP130 => k_is); (case xP131 => k_is); (case xP132 => k_is); (case xP133 => k_is); (case xP134 => k_is); (case xP135 => k_is); (case xP136 => k_is); (case xP137 => k_is); (case xP138 => k_is); (case xP139 => k_is); (case xP140 => k_is); (case xP141 => k_is); (case xP142 => k_is); (case xP143 => k_is); (case xP144 => k_is); (case xP145 => k_is); (case xP146 => k_is); (case xP147 => k_is); (case xP148 => k_is); (case xP149 => k_is); (case xP150 => k_is); (case xP151 => k_is); (case xP152 => k_is); (case xP153 => k_is); (case xP154 => k_is); (case xP155 => k_is); (case xP156 => k_is); (case xP157 => k_is); (case xP158 => k_is); (case xP159 => k_is); (case xP160 => k_is); (case xP161 => k_is); (case xP162 => k_is); (case xP163 => k_is); (case xP164 => k_is); (case xP165 => k_is); (case xP166 => k_is); (case xP167 => k_is); (case xP168 => k_is); (case xP169 => k_is); (case xP170 => k_is); (case xP171 => k_is); (case xP172 => k_is); (case xP173 => k_is); (case xP174 => k_is); (case xP175 => k_is); (case xP176 => k_is); (case xP177 => k_is); (case xP178 => k_is); (case xP179 => k_is); (case xP180 => k_is); (case xP181 => k_is); (case xP182 => k_is); (case xP183 => k_is); (case xP184 => k_is); (case xP185 => k_is); (case xP186 => k_is); (case xP187 => k_is); (case xP188 => k_is); (case xP189 => k_is); (case xP190 => k_is); (case xP191 => k_is); (case xP192 => k_is); (case xP193 => k_is); (case xP194 => k_is); (case xP195 => k_is); (case xP196 => k_is); (case xP197 => k_is); (case xP198 => k_is); (case xP199 => k_is); (case xP200 => k_is); (case xP201 => k_is); (case xP202 => k_is); (case xP203 => k_is); (case xP204 => k_is); (case xP205 => k_is); (case xP206 => k_is); (case xP207 => k_is); (case xP208 => k_is); (case xP209 => k_is); (case xP210 => k_is); (case xP211 => k_is); (case xP212 => k_is); (case xP213 => k_is); (case xP214 => k_is); (case xP215 => k_is); (case xP216 => k_is); (case xP217 => k_is); (case xP218 => k_is); (case xP219 => k_is); (case xP220 => k_is); (case xP221 => k_is); (case xP222 => k_is); (case xP223 => k_is); (case xP224 => k_is); (case xP225 => k_is); (case xP226 => k_is); (case xP227 => k_is); (case xP228 => k_is); (case xP229 => k_is); (case xP230 => k_is); (case xP231 => k_is); (case xP232 => k_is); (case xP233 => k_is); (case xP234 => k_is); (case xP235 => k_is); (case xP236 => k_is); (case xP237 => k_is); (case xP238 => k_is); (case xP239 => k_is); (case xP240 => k_is); (case xP241 => k_is); (case xP242 => k_is); (case xP243 => k_is); (case xP244 => k_is); (case xP245 => k_is); (case xP246 => k_is); (case xP247 => k_is); (case xP248 => k_is); (case xP249 => k_is); (case xP250 => k_is); (case xP251 => k_is); (case xP252 => k_is); (case xP253 => k_is); (case xP254 => k_is); (case xP255 => k_is); (case xP256 => k_is); (case xP257 => k_is); (case xP258 => k_is); (case xP259 => k_is); (case xP260 => k_is); (case xP261 => k_is); (case xP262 => k_is); (case xP263 => k_is); (case xP264 => k_is); (case xP265 => k_is); (case xP266 => k_is); (case xP267 => k_is); (case xP268 => k_is); (case xP269 => k_is); (case xP270 => k_is); (case xP271 => k_is); (case xP272 => k_is); (case xP273 => k_is); (case xP274 => k_is); (case xP275 => k_is); (case xP276 => k_is); (case xP277 => k_is); (case xP278 => k_is); (case xP279 => k_is); (case xP280 => k_is); (case xP281 => k_is); (case xP282 => k_is); (case xP283 => k_is); (case xP284 => k_is); (case xP285 => k_is); (case xP286 => k_is); (case xP287 => k_is); (case xP288 => k_is); (case z1 => k_is); (case z2 => k_is); (case z3 => k_is); (case z4 => k_is); (case z5 => k_is); (case z6 => k_is)
