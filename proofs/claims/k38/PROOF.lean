import PyProof.Rows.All
import Wide.All
import OpenK.AllK
import Wide.FinOn
import HandS.ForMost
import HandS.ForExc
import HandS.Lambda
import HandS.ExcInit
import KE.SortData
import KE.DataEq
import KE.DataCmp
import KE.DataMinMax
import HandS.TupAny
import HandS.TupMul
import HandS.IsInst
import HandS.Wide
import HandS.Conv
import HandS.Style
import HandS.ExcOwn
import HandS.Zip
import HandS.CallSlots
import HandS.Defaults
import HandS.Dict
import HandS.Ends
import HandS.Head0
import HandS.Head1
import HandS.Head2
import HandS.HeadEnd
import HandS.HeadHook1
import HandS.HeadHook2
import HandS.HeadHook4
import HandS.ExcField
import HandS.ExcIs
import HandS.TryMany
import KE.KExcIs
import PyProof.ExcBaseAll.LookupError
import KE.KExcInit
import HandS.Small
import HandS.Property
import KE.GoesEnum
import PyProof.AutoSeq1
import KE.SortKeyHeap
import HandS.TupSets
import HandS.SetFor
import PyProof.TupleOfSeq
import HandS.ExcValue
import HandS.Strs
import KE.KTupSum
import KE.GoesMore
import HandS.SortKw
import HandS.TupLe
import PySem.Challenge.RW_openports_k38_errors_and_bounds
import HandS.SlotsOwn
import PyProof.InstNe
import PyProof.FactsAll.object_2
import HandS.WordsDict
import HandS.Text
import HandS.Iter
import HandS.FStr
import HandS.NamedTupGet
import KE.KCallOwn
import OpenK.KMeth
import HandS.HotCalls
import HandS.DictComp
import KE.KDictDisplayH
import PyProof.ReprLen
set_option Elab.async false
set_option linter.all false
set_option maxRecDepth 100000
set_option maxHeartbeats 4000000
set_option autoImplicit false
namespace DL
noncomputable section
open PySem PySem.Spec PyProof.Rows L2

/-! ### data -/
inductive D where
  | non | bl (b : Bool) | int (i : Int) | str (s : Str)
  | tup (ds : List D) | lst (ds : List D) | dic (kvs : List (Key × D))
  | obj (c : Nat) (fs : List (Str × D))
  | ref (n : Nat)
  | err (c : Nat) (fs : List (Str × D))
  | xo (c : Nat) (fs : List (Str × D))

mutual
/-- no cell from n on -/
def low (n : Nat) : D → Bool
  | .non => true
  | .bl _ => true
  | .int _ => true
  | .str _ => true
  | .tup ds => lowL n ds
  | .lst ds => lowL n ds
  | .dic kvs => lowK n kvs
  | .obj _ fs => lowF n fs
  | .ref k => decide (k < n)
  | .err _ _ => false
  | .xo _ fs => lowF n fs
def lowL (n : Nat) : List D → Bool
  | [] => true
  | d :: ds => low n d && lowL n ds
def lowK (n : Nat) : List (Key × D) → Bool
  | [] => true
  | (_, d) :: ds => low n d && lowK n ds
def lowF (n : Nat) : List (Str × D) → Bool
  | [] => true
  | (_, d) :: ds => low n d && lowF n ds
end
/-- what may change -/
inductive Cell where
  | lst (ds : List D) | dic (kvs : List (Key × D)) | obj (c : Nat) (fs : List (Str × D))
  | dkl (kvs : List (Key × D)) | dt (kvs : List (List Key × D)) | dtl (kvs : List (List Key × D))

/-- the classes; the errors at hand: where, its class, its dict -/
structure CMap where
  c : Nat → Addr → Prop
  e : Addr → Addr → Option Addr → Prop
  /-- tables of code objects, the names of the code objects that they tell -/
  t : List (Addr × Str) := []
  /-- the program and its world -/
  pw : Program → World → Prop := fun _ _ => False
  /-- objects that stand: functions made within functions -/
  fx : List (Addr × HO) := []
  /-- captured values, and what they are as data -/
  cv : List V := []
  cd : List D := []
/-- where the cells stand (c), and what is hidden (p) -/
structure Gh where
  c : List Addr
  p : List Addr
instance : Membership Addr Gh := ⟨fun g a => a ∈ g.c ∨ a ∈ g.p⟩
theorem Gh.mem {g : Gh} {a : Addr} : a ∈ g ↔ a ∈ g.c ∨ a ∈ g.p := Iff.rfl
/-- a new cell's place -/
def Gh.snoc (g : Gh) (a : Addr) : Gh := ⟨g.c ++ [a], g.p⟩
/-- a new hidden place -/
def Gh.hide (g : Gh) (a : Addr) : Gh := ⟨g.c, a :: g.p⟩
/-- a list of the written part -/
def KLst (K : PySem.W.Frag) (a : Addr) (xs : List V) : Prop :=
  ∃ (its : List Value) (n : Nat), K.lookup a = some { cls := .type "list", data := .seq its.toArray n } ∧ its.length ≤ sizeLine ∧ Vals xs its
/-- a list, known or of the written part -/
def LstX (K : PySem.W.Frag) (H : Hp) (a : Addr) (xs : List V) : Prop := Rd H a (.lst xs) ∨ KLst K a xs
/-- a list that nobody changes -/
def FrL (K : PySem.W.Frag) (ρ : Gh) (H : Hp) (a : Addr) (xs : List V) : Prop := (Rd H a (.lst xs) ∧ a ∉ ρ) ∨ KLst K a xs
theorem LstX.sql {K : PySem.W.Frag} {H : Hp} {a : Addr} {xs : List V} (h : LstX K H a xs) : SqL K H a xs := by
  rcases h with h | ⟨its, n, e, z, r⟩
  · exact .inl h
  · exact .inr ⟨_, its.toArray, n, e, rfl, rfl, rfl, by simpa using z, by simpa using r⟩
theorem FrL.lx {K : PySem.W.Frag} {ρ : Gh} {H : Hp} {a : Addr} {xs : List V} (h : FrL K ρ H a xs) : LstX K H a xs := by
  rcases h with ⟨h, _⟩ | h
  · exact .inl h
  · exact .inr h
theorem FrL.sql {K : PySem.W.Frag} {ρ : Gh} {H : Hp} {a : Addr} {xs : List V} (h : FrL K ρ H a xs) : SqL K H a xs := h.lx.sql
theorem LstX.obj {X : Cx} {pins : List (Addr × Obj)} {σ : L2.St} {H : Hp} {s : Shared} {a : Addr} {xs : List V} (I : Inv X pins σ H s) (h : LstX X.K H a xs) :
    xs.length ≤ sizeLine ∧ ∃ (its : List Value) (n : Nat), Vals xs its ∧ xs.length = its.length ∧ s.heap.get? a = some { cls := .type "list", data := .seq its.toArray n } := by
  rcases h with h | ⟨its, n, e, z, r⟩
  · obtain ⟨z, its, n, r, e⟩ := h.ok I.hok
    exact ⟨z, its, n, r, r.length, e⟩
  · exact ⟨by rw [r.length]; exact z, its, n, r, r.length, I.kIn _ _ e⟩

/-- an error that is a value: where it stands, its class, its fields -/
def XoAt (ρ : Gh) (H : Hp) (a C : Addr) (fs : List (Str × V)) : Prop := a ∉ ρ ∧ ((H a = some (exo a C none) ∧ fs = []) ∨ ∃ dd, dd ∉ ρ ∧ H a = some (exo a C (some dd)) ∧ H dd = some (exd dd fs))
theorem XoAt.of {ρ ρ' : Gh} {H : Hp} {a C : Addr} {fs : List (Str × V)} (o : ∀ b, b ∉ ρ → b ∉ ρ') (h : XoAt ρ H a C fs) : XoAt ρ' H a C fs := ⟨o _ h.1, h.2.imp id fun ⟨dd, n, e1, e2⟩ => ⟨dd, o _ n, e1, e2⟩⟩
section
variable (K : PySem.W.Frag) (CM : CMap) (ρ : Gh) (H : Hp)
mutual
inductive Den : V → D → Prop
  | non : Den .non .non
  | bl (b : Bool) : Den (.bl b) (.bl b)
  | int (i : Int) : Den (.int i) (.int i)
  | str (s : Str) : Den (.str s) (.str s)
  | tup {a : Addr} {vs : List V} {ds : List D} : SqT K H a vs → DenL vs ds → Den (.ref a) (.tup ds)
  | lst {a : Addr} {vs : List V} {ds : List D} : FrL K ρ H a vs → DenL vs ds → Den (.ref a) (.lst ds)
  | dic {a : Addr} {kvs : List (Key × V)} {dks : List (Key × D)} : H a = some (.dK kvs) → a ∉ ρ → kvs.map (·.1) = dks.map (·.1) → DenL (kvs.map (·.2)) (dks.map (·.2)) → Den (.ref a) (.dic dks)
  | obj {a C dx : Addr} {c : Nat} {fs : List (Str × V)} {dfs : List (Str × D)} : CM.c c C → H a = some (.ins C dx fs) → a ∉ ρ → fs.map (·.1) = dfs.map (·.1) → DenL (fs.map (·.2)) (dfs.map (·.2)) → Den (.ref a) (.obj c dfs)
  | ref {a : Addr} {n : Nat} : ρ.c[n]? = some a → Den (.ref a) (.ref n)
  | err0 {a C : Addr} {c : Nat} : CM.e a C none → CM.c c C → Den (.ref a) (.err c [])
  | err {a C dd : Addr} {c : Nat} {fs : List (Str × V)} {dfs : List (Str × D)} : CM.e a C (some dd) → CM.c c C → H dd = some (.xd fs) → fs.map (·.1) = dfs.map (·.1) → DenL (fs.map (·.2)) (dfs.map (·.2)) → Den (.ref a) (.err c dfs)
  | xo {a C : Addr} {c : Nat} {fs : List (Str × V)} {dfs : List (Str × D)} : CM.c c C → XoAt ρ H a C fs → fs.map (·.1) = dfs.map (·.1) → DenL (fs.map (·.2)) (dfs.map (·.2)) → Den (.ref a) (.xo c dfs)
inductive DenL : List V → List D → Prop
  | nil : DenL [] []
  | cons {v : V} {vs : List V} {d : D} {ds : List D} : Den v d → DenL vs ds → DenL (v :: vs) (d :: ds)
end
end

/-- a dict with tuples for keys: the keys, where they stand, the values -/
def DtP (P : Program) (w : World) (a : Addr) (L : List (List Key × Addr × V)) (h : Heap) : Prop :=
  L.length ≤ sizeLine ∧ (a == sysModules) = false ∧ ∃ xs : List (List Key × Addr × Value), Paired (fun (p : List Key × Addr × V) (q : List Key × Addr × Value) => p.1 = q.1 ∧ p.2.1 = q.2.1 ∧ RelV p.2.2 q.2.2) L xs ∧
    ∃ (o : Obj) (es : Array DictEntry) (ep : Nat), h.get? a = some o ∧ o.ExactDict ∧ o.data = .dict es ep ∧ es.toList = xs.map (entryOfKey (tupleKind (mixKind P w))) ∧ (xs.map (·.1)).Nodup
abbrev DtO (P : Program) (w : World) (a : Addr) (L : List (List Key × Addr × V)) : HO := .ext (DtP P w a L)
/-- the object of a cell -/
def isCell : HO → Bool
  | .lst _ => true
  | .dK _ => true
  | .ins _ _ _ => true
  | .dT _ => true
  | .ext φ => @decide (∃ P w a L, φ = DtP P w a L) (Classical.propDecidable _)
  | .frz _ (.dK _) => true
  | .frz _ (.dT _) => true
  | .frz _ (.ext φ) => @decide (∃ P w a L, φ = DtP P w a L) (Classical.propDecidable _)
  | _ => false
theorem dt_cell {P : Program} {w : World} {a : Addr} {L : List (List Key × Addr × V)} : isCell (DtO P w a L) = true := @decide_eq_true _ (Classical.propDecidable _) ⟨P, w, a, L, rfl⟩
theorem dtl_cell {P : Program} {w : World} {a : Addr} {L : List (List Key × Addr × V)} {o : Obj} : isCell (.frz o (DtO P w a L)) = true := @decide_eq_true _ (Classical.propDecidable _) ⟨P, w, a, L, rfl⟩
theorem code_no {c : Addr} {q : Str} : isCell (LamX.CodeO c q) = false := by
  refine @decide_eq_false _ (Classical.propDecidable _) fun ⟨P, w, a, L, e⟩ => ?_
  have hg : ∀ b o, ({ objs := Array.replicate (c + 1) { cls := .none, data := .fields #[.none, .str q default] } } : Heap).get? b = some o → o = { cls := .none, data := .fields #[.none, .str q default] } := by
    intro b o h
    unfold Heap.get? at h
    simp only [Array.getElem?_replicate] at h
    split at h
    · cases h
    · split at h
      · exact (Option.some.inj h).symm
      · cases h
  have hc : ({ objs := Array.replicate (c + 1) { cls := .none, data := .fields #[.none, .str q default] } } : Heap).get? c = some { cls := .none, data := .fields #[.none, .str q default] } := by
    unfold Heap.get?
    simp only [Array.getElem?_replicate]
    rw [if_pos (Nat.lt_succ_self c)]
  have := congrFun e ({ objs := Array.replicate (c + 1) { cls := .none, data := .fields #[.none, .str q default] } } : Heap)
  have h2 : DtP P w a L ({ objs := Array.replicate (c + 1) { cls := .none, data := .fields #[.none, .str q default] } } : Heap) := by
    rw [← this]
    exact ⟨_, _, _, hc, rfl, rfl⟩
  obtain ⟨_, _, xs, _, o, es, ep, h3, _, h4, _⟩ := h2
  rw [hg a o h3] at h4
  cases h4
def Cel (ρ : Gh) (H : Hp) : Prop := ∀ a ∈ ρ, ∃ o, H a = some o ∧ isCell o = true
def CellOk (K : PySem.W.Frag) (CM : CMap) (ρ : Gh) (H : Hp) (a : Addr) : Cell → Prop
  | .lst ds => ∃ vs, H a = some (.lst vs) ∧ DenL K CM ρ H vs ds
  | .dic dks => ∃ kvs, H a = some (.dK kvs) ∧ kvs.map (·.1) = dks.map (·.1) ∧ DenL K CM ρ H (kvs.map (·.2)) (dks.map (·.2))
  | .obj c dfs => ∃ C dx fs, CM.c c C ∧ H a = some (.ins C dx fs) ∧ fs.map (·.1) = dfs.map (·.1) ∧ DenL K CM ρ H (fs.map (·.2)) (dfs.map (·.2))
  | .dkl dks => ∃ o kvs, H a = some (.frz o (.dK kvs)) ∧ kvs.map (·.1) = dks.map (·.1) ∧ DenL K CM ρ H (kvs.map (·.2)) (dks.map (·.2))
  | .dt dks => ∃ L : List (List Key × Addr × V), (∃ P w, CM.pw P w ∧ H a = some (DtO P w a L)) ∧ (L.map (·.1) = dks.map (·.1) ∧ ∀ p ∈ L, SqT K H p.2.1 (p.1.map kV)) ∧ DenL K CM ρ H (L.map (·.2.2)) (dks.map (·.2))
  | .dtl dks => ∃ o, ∃ L : List (List Key × Addr × V), (∃ P w, CM.pw P w ∧ H a = some (.frz o (DtO P w a L))) ∧ (L.map (·.1) = dks.map (·.1) ∧ ∀ p ∈ L, SqT K H p.2.1 (p.1.map kV)) ∧ DenL K CM ρ H (L.map (·.2.2)) (dks.map (·.2))
/-- tables of code objects; functions that stand; what is captured -/
structure TabsX (K : PySem.W.Frag) (CM : CMap) (ρ : Gh) (H : Hp) : Prop where
  tb : LamX.Tabs CM.t H
  fx : ∀ p ∈ CM.fx, H p.1 = some p.2 ∧ p.1 ∉ ρ ∧ ∀ ps, p.2 ≠ .tbl ps
  cap : DenL K CM ρ H CM.cv CM.cd
  lo : lowL 0 CM.cd = true
structure Sim (K : PySem.W.Frag) (CM : CMap) (ρ : Gh) (h : List Cell) (H : Hp) : Prop where
  len : ρ.c.length = h.length
  nd : ρ.c.Nodup
  hid : ∀ a ∈ ρ.p, a ∉ ρ.c ∧ ∃ o, H a = some o ∧ isCell o = true
  cell : ∀ (n : Nat) (a : Addr) (c : Cell), ρ.c[n]? = some a → h[n]? = some c → CellOk K CM ρ H a c
  tab : TabsX K CM ρ H
structure Ext (ρ : Gh) (H : Hp) (ρ' : Gh) (H' : Hp) : Prop where
  pre : ∃ m, ρ'.c = ρ.c ++ m ∧ ρ'.p = ρ.p ∧ ∀ a ∈ m, H a = none
  kp : ∀ b o, H b = some o → b ∉ ρ.c → (∀ ps, o ≠ .tbl ps) → H' b = some o
  tb : ∀ b ps, H b = some (.tbl ps) → ∃ more, H' b = some (.tbl (ps ++ more))
  fz : ∀ b o u, H b = some (.frz o u) → H' b = some (.frz o u)
/-- what data leans on -/
structure Ext0 (ρ : Gh) (H : Hp) (ρ' : Gh) (H' : Hp) : Prop where
  pre : ∃ m q, ρ'.c = ρ.c ++ m ∧ ρ'.p = q ++ ρ.p ∧ (∀ a ∈ m, H a = none) ∧ ∀ a ∈ q, H a = none
  kp : ∀ b o, H b = some o → b ∉ ρ → (∀ ps, o ≠ .tbl ps) → H' b = some o
  tb : ∀ b ps, H b = some (.tbl ps) → ∃ more, H' b = some (.tbl (ps ++ more))

section
variable {K : PySem.W.Frag} {CM : CMap} {ρ ρ' ρ'' : Gh} {h h' : List Cell} {H H' H'' : Hp}

theorem DenL.length : ∀ {vs : List V} {ds : List D}, DenL K CM ρ H vs ds → vs.length = ds.length
  | _, _, .nil => rfl
  | _, _, .cons _ t => congrArg (· + 1) (DenL.length t)
theorem DenL.append : ∀ {vs ws : List V} {ds es : List D}, DenL K CM ρ H vs ds → DenL K CM ρ H ws es → DenL K CM ρ H (vs ++ ws) (ds ++ es)
  | _, _, _, _, .nil, q => q
  | _, _, _, _, .cons a t, q => .cons a (DenL.append t q)
theorem DenL.get : ∀ {vs : List V} {ds : List D} {i : Nat} {d : D}, DenL K CM ρ H vs ds → ds[i]? = some d → ∃ v, vs[i]? = some v ∧ Den K CM ρ H v d
  | _, _, _, _, .nil, e => by simp at e
  | _, _, 0, _, .cons r _, e => by simp at e; subst e; exact ⟨_, rfl, r⟩
  | _, _, i + 1, d, .cons _ t, e => by
    obtain ⟨u, h1, h2⟩ := DenL.get (i := i) (d := d) t (by simpa using e)
    exact ⟨u, by simpa using h1, h2⟩
theorem DenL.take : ∀ {vs : List V} {ds : List D} (n : Nat), DenL K CM ρ H vs ds → DenL K CM ρ H (vs.take n) (ds.take n)
  | _, _, 0, _ => .nil
  | _, _, _ + 1, .nil => .nil
  | _, _, n + 1, .cons r t => .cons r (DenL.take n t)
theorem DenL.drop : ∀ {vs : List V} {ds : List D} (n : Nat), DenL K CM ρ H vs ds → DenL K CM ρ H (vs.drop n) (ds.drop n)
  | _, _, 0, r => r
  | _, _, _ + 1, .nil => .nil
  | _, _, n + 1, .cons _ t => DenL.drop n t
theorem DenL.reverse : ∀ {vs : List V} {ds : List D}, DenL K CM ρ H vs ds → DenL K CM ρ H vs.reverse ds.reverse
  | _, _, .nil => .nil
  | _, _, .cons r t => by
    rw [List.reverse_cons, List.reverse_cons]
    exact (DenL.reverse t).append (.cons r .nil)
theorem DenL.set : ∀ {vs : List V} {ds : List D} {v : V} {d : D} (i : Nat), DenL K CM ρ H vs ds → Den K CM ρ H v d → DenL K CM ρ H (vs.set i v) (ds.set i d)
  | _, _, _, _, _, .nil, _ => .nil
  | _, _, _, _, 0, .cons _ t, q => .cons q t
  | _, _, _, _, i + 1, .cons r t, q => .cons r (DenL.set i t q)

theorem Ext.keep (e : Ext ρ H ρ' H') (b : Addr) (o : HO) (h : H b = some o) (n : b ∉ ρ.c) (t : ∀ ps, o ≠ .tbl ps := by intro _ z; cases z) : H' b = some o := e.kp b o h n t
theorem Ext0.keep (e : Ext0 ρ H ρ' H') (b : Addr) (o : HO) (h : H b = some o) (n : b ∉ ρ) (t : ∀ ps, o ≠ .tbl ps := by intro _ z; cases z) : H' b = some o := e.kp b o h n t
theorem tb_refl (b : Addr) (ps : Array Value) (e : H b = some (.tbl ps)) : ∃ more, H b = some (.tbl (ps ++ more)) := ⟨#[], by rw [e]; simp⟩
theorem nofz {p : Addr} {x : HO} (h : H p = some x) (hx : ∀ o u, x ≠ .frz o u := by intro _ _ z; cases z) : ∀ o u, H p ≠ some (.frz o u) := fun o u z => by
  rw [h] at z
  exact hx o u (Option.some.inj z)
theorem nofz0 {p : Addr} (h : H p = none) : ∀ o u, H p ≠ some (.frz o u) := fun o u z => by rw [h] at z; cases z
theorem fz_upd {p : Addr} {x : HO} (h : ∀ o u, H p ≠ some (.frz o u)) (b : Addr) (o : Obj) (u : HO) (e : H b = some (.frz o u)) : upd H p x b = some (.frz o u) := by
  rw [upd_ne (fun q => h o u (by rw [← q]; exact e))]
  exact e
theorem tb_upd {p : Addr} {o : HO} (hp : ∀ u, H p = some u → isCell u = true) (b : Addr) (ps : Array Value) (e : H b = some (.tbl ps)) : ∃ more, upd H p o b = some (.tbl (ps ++ more)) := by
  have hb : b ≠ p := fun z => by
    subst z
    cases hp _ e
  exact ⟨#[], by rw [upd_ne hb, e]; simp⟩
theorem not_cell {p : Addr} (hp : H p = none) : ∀ u, H p = some u → isCell u = true := fun u e => by rw [hp] at e; cases e
theorem tabs_upd {T : List (Addr × Str)} {p : Addr} {o : HO} (h : LamX.Tabs T H) (hp : ∀ u, H p = some u → isCell u = true) : LamX.Tabs T (upd H p o) := fun q hq => by
  obtain ⟨ps, e, ht, hc⟩ := h q hq
  have hb : q.1 ≠ p := fun z => by
    rw [z] at e
    cases hp _ e
  refine ⟨ps, by rw [upd_ne hb]; exact e, ht, fun pos cv hcv => ?_⟩
  obtain ⟨c, e1, e2⟩ := hc pos cv hcv
  refine ⟨c, e1, ?_⟩
  have hb2 : c ≠ p := fun z => by
    subst z
    have := hp _ e2
    rw [code_no] at this
    cases this
  rw [upd_ne hb2]
  exact e2
theorem Ext.refl : Ext ρ H ρ H := ⟨⟨[], by simp, rfl, by simp⟩, fun _ _ e _ _ => e, tb_refl, fun _ _ _ e => e⟩
theorem Ext.some_ (e : Ext ρ H ρ' H') {b : Addr} {o : HO} (h : H b = some o) (n : b ∉ ρ.c) : ∃ o', H' b = some o' := by
  by_cases ht : ∃ ps, o = .tbl ps
  · obtain ⟨ps, rfl⟩ := ht
    obtain ⟨m, z⟩ := e.tb _ _ h
    exact ⟨_, z⟩
  · exact ⟨o, e.kp b o h n fun ps z => ht ⟨ps, z⟩⟩
theorem Ext.notMemC (e : Ext ρ H ρ' H') {a : Addr} {o : HO} (ha : H a = some o) (hn : a ∉ ρ.c) : a ∉ ρ'.c := by
  obtain ⟨m, e1, e2, hm⟩ := e.pre
  rw [e1]
  intro q
  rcases List.mem_append.mp q with q | q
  · exact hn q
  · rw [hm a q] at ha; cases ha
theorem Ext.notMem (e : Ext ρ H ρ' H') {a : Addr} {o : HO} (ha : H a = some o) (hn : a ∉ ρ) : a ∉ ρ' := by
  obtain ⟨m, e1, e2, hm⟩ := e.pre
  intro q
  rcases Gh.mem.mp q with q | q
  · exact e.notMemC ha (fun z => hn (.inl z)) q
  · rw [e2] at q; exact hn (.inr q)
theorem Ext.trans (e : Ext ρ H ρ' H') (f : Ext ρ' H' ρ'' H'') (c : Cel ρ' H') : Ext ρ H ρ'' H'' := by
  obtain ⟨m, e1, e2, hm⟩ := e.pre
  obtain ⟨m', f1, f2, hm'⟩ := f.pre
  refine ⟨⟨m ++ m', by rw [f1, e1]; simp, f2.trans e2, fun a ha => ?_⟩, fun b o hb hn ht => f.kp b o (e.kp b o hb hn ht) (e.notMemC hb hn) ht, fun b ps hb => ?_, fun b o u hb => f.fz b o u (e.fz b o u hb)⟩
  case refine_2 =>
    obtain ⟨m1, z1⟩ := e.tb b ps hb
    obtain ⟨m2, z2⟩ := f.tb b _ z1
    exact ⟨m1 ++ m2, by rw [z2, Array.append_assoc]⟩
  rcases List.mem_append.mp ha with q | q
  · exact hm a q
  · cases z : H a with
    | none => rfl
    | some o =>
      by_cases hr : a ∈ ρ.c
      · obtain ⟨o', z', _⟩ := c a (.inl (by rw [e1]; exact List.mem_append_left _ hr))
        rw [hm' a q] at z'; cases z'
      · obtain ⟨o', this⟩ := e.some_ z hr
        rw [hm' a q] at this; cases this
theorem Ext.to0 (e : Ext ρ H ρ' H') : Ext0 ρ H ρ' H' := by
  obtain ⟨m, e1, e2, hm⟩ := e.pre
  exact ⟨⟨m, [], e1, by simp [e2], hm, by simp⟩, fun b o h n ht => e.kp b o h (fun z => n (.inl z)) ht, e.tb⟩
abbrev Fz (H H' : Hp) : Prop := ∀ b o u, H b = some (.frz o u) → H' b = some (.frz o u)
theorem Ext0.notMem (e : Ext0 ρ H ρ' H') {a : Addr} {o : HO} (ha : H a = some o) (hn : a ∉ ρ) : a ∉ ρ' := by
  obtain ⟨m, q, e1, e2, hm, hq⟩ := e.pre
  intro z
  rcases Gh.mem.mp z with z | z
  · rw [e1] at z
    rcases List.mem_append.mp z with z | z
    · exact hn (.inl z)
    · rw [hm a z] at ha; cases ha
  · rw [e2] at z
    rcases List.mem_append.mp z with z | z
    · rw [hq a z] at ha; cases ha
    · exact hn (.inr z)
theorem Ext0.get (e : Ext0 ρ H ρ' H') {n : Nat} {a : Addr} (h : ρ.c[n]? = some a) : ρ'.c[n]? = some a := by
  obtain ⟨m, q, e1, _, _⟩ := e.pre
  rw [e1]
  have := (List.getElem?_eq_some_iff.mp h).1
  rw [List.getElem?_append_left this]; exact h
theorem Ext.get (e : Ext ρ H ρ' H') {n : Nat} {a : Addr} (h : ρ.c[n]? = some a) : ρ'.c[n]? = some a := e.to0.get h
theorem CellOk.isCell {a : Addr} {c : Cell} (h : CellOk K CM ρ H a c) : ∃ o, H a = some o ∧ isCell o = true := by
  cases c with
  | lst ds => obtain ⟨vs, e, _⟩ := h; exact ⟨_, e, rfl⟩
  | dic dks => obtain ⟨vs, e, _⟩ := h; exact ⟨_, e, rfl⟩
  | obj c dfs => obtain ⟨C, dx, fs, _, e, _⟩ := h; exact ⟨_, e, rfl⟩
  | dkl dks => obtain ⟨o, vs, e, _⟩ := h; exact ⟨_, e, rfl⟩
  | dt dks => obtain ⟨L, ⟨P, w, _, e⟩, _⟩ := h; exact ⟨_, e, dt_cell⟩
  | dtl dks => obtain ⟨o, L, ⟨P, w, _, e⟩, _⟩ := h; exact ⟨_, e, dtl_cell⟩
theorem Sim.at (S : Sim K CM ρ h H) {n : Nat} {c : Cell} (e : h[n]? = some c) : ∃ a, ρ.c[n]? = some a ∧ CellOk K CM ρ H a c := by
  have h1 := (List.getElem?_eq_some_iff.mp e).1
  have h2 : n < ρ.c.length := by rw [S.len]; exact h1
  exact ⟨ρ.c[n], List.getElem?_eq_getElem h2, S.cell n _ c (List.getElem?_eq_getElem h2) e⟩
theorem Sim.at' (S : Sim K CM ρ h H) {n : Nat} {a : Addr} (e : ρ.c[n]? = some a) : ∃ c, h[n]? = some c ∧ CellOk K CM ρ H a c := by
  have h1 := (List.getElem?_eq_some_iff.mp e).1
  have h2 : n < h.length := by rw [← S.len]; exact h1
  exact ⟨h[n], List.getElem?_eq_getElem h2, S.cell n _ _ e (List.getElem?_eq_getElem h2)⟩
theorem Sim.cel (S : Sim K CM ρ h H) : Cel ρ H := fun a ha => by
  rcases Gh.mem.mp ha with ha | ha
  · obtain ⟨n, hn, e⟩ := List.getElem_of_mem ha
    obtain ⟨c, _, q⟩ := S.at' (n := n) (a := a) (by rw [List.getElem?_eq_getElem hn, e])
    exact q.isCell
  · exact (S.hid a ha).2
theorem Cel.tup (c : Cel ρ H) {a : Addr} {xs : List V} (h : Rd H a (.tup xs)) : a ∉ ρ := fun q => by
  obtain ⟨o, e, z⟩ := c a q
  rcases h with h | ⟨_, h⟩ <;> (rw [e] at h; cases h; cases z)
theorem Rd.ext0 {a : Addr} {u : HO} (e : Ext0 ρ H ρ' H') (h : Rd H a u) (hn : a ∉ ρ) (hu : ∀ ps, u ≠ .tbl ps := by intro _ z; cases z) : Rd H' a u := by
  rcases h with h | ⟨o, h⟩
  · exact .inl (e.keep _ _ h hn hu)
  · exact .inr ⟨o, e.keep _ _ h hn⟩
theorem Rd.notMem0 {a : Addr} {u : HO} (e : Ext0 ρ H ρ' H') (h : Rd H a u) (hn : a ∉ ρ) : a ∉ ρ' := by
  rcases h with h | ⟨o, h⟩
  · exact e.notMem h hn
  · exact e.notMem h hn
theorem SqT.ext0 {a : Addr} {xs : List V} (c : Cel ρ H) (e : Ext0 ρ H ρ' H') (h : SqT K H a xs) : SqT K H' a xs := by
  rcases h with h | h
  · exact .inl (Rd.ext0 e h (c.tup h))
  · exact .inr h
theorem FrL.ext0 {a : Addr} {xs : List V} (e : Ext0 ρ H ρ' H') (h : FrL K ρ H a xs) : FrL K ρ' H' a xs := by
  rcases h with ⟨h, hn⟩ | h
  · exact .inl ⟨Rd.ext0 e h hn, Rd.notMem0 e h hn⟩
  · exact .inr h
theorem Cel.xd (c : Cel ρ H) {a : Addr} {fs : List (Str × V)} (h : H a = some (.xd fs)) : a ∉ ρ := fun q => by
  obtain ⟨o, e, z⟩ := c a q
  rw [h] at e; cases e; cases z
theorem XoAt.ext0 {a C : Addr} {fs : List (Str × V)} (e : Ext0 ρ H ρ' H') (h : XoAt ρ H a C fs) : XoAt ρ' H' a C fs := by
  obtain ⟨n, h | ⟨dd, nd, e1, e2⟩⟩ := h
  · exact ⟨e.notMem h.1 n, .inl ⟨e.keep _ _ h.1 n fun ps z => exo_tbl z, h.2⟩⟩
  · exact ⟨e.notMem e1 n, .inr ⟨dd, e.notMem e2 nd, e.keep _ _ e1 n (fun ps z => exo_tbl z), e.keep _ _ e2 nd (fun ps z => by unfold exd at z; cases z)⟩⟩
mutual
theorem Den.ext0 (c : Cel ρ H) (e : Ext0 ρ H ρ' H') : ∀ {v : V} {d : D}, Den K CM ρ H v d → Den K CM ρ' H' v d
  | _, _, .non => .non
  | _, _, .bl b => .bl b
  | _, _, .int i => .int i
  | _, _, .str s => .str s
  | _, _, .tup h t => .tup (SqT.ext0 c e h) (DenL.ext0 c e t)
  | _, _, .lst h t => .lst (FrL.ext0 e h) (DenL.ext0 c e t)
  | _, _, .dic h n k t => .dic (e.keep _ _ h n) (e.notMem h n) k (DenL.ext0 c e t)
  | _, _, .obj k h n m t => .obj k (e.keep _ _ h n) (e.notMem h n) m (DenL.ext0 c e t)
  | _, _, .ref h => .ref (e.get h)
  | _, _, .err0 h k => .err0 h k
  | _, _, .err h k o m t => .err h k (e.keep _ _ o (c.xd o)) m (DenL.ext0 c e t)
  | _, _, .xo k h m t => .xo k (XoAt.ext0 e h) m (DenL.ext0 c e t)
theorem DenL.ext0 (c : Cel ρ H) (e : Ext0 ρ H ρ' H') : ∀ {vs : List V} {ds : List D}, DenL K CM ρ H vs ds → DenL K CM ρ' H' vs ds
  | _, _, .nil => .nil
  | _, _, .cons h t => .cons (Den.ext0 c e h) (DenL.ext0 c e t)
end
theorem Den.ext (c : Cel ρ H) (e : Ext ρ H ρ' H') {v : V} {d : D} (q : Den K CM ρ H v d) : Den K CM ρ' H' v d := q.ext0 c e.to0
theorem DenL.ext (c : Cel ρ H) (e : Ext ρ H ρ' H') {vs : List V} {ds : List D} (q : DenL K CM ρ H vs ds) : DenL K CM ρ' H' vs ds := q.ext0 c e.to0
theorem SqT.ext {a : Addr} {xs : List V} (c : Cel ρ H) (e : Ext ρ H ρ' H') (h : SqT K H a xs) : SqT K H' a xs := SqT.ext0 c e.to0 h
theorem FrL.ext {a : Addr} {xs : List V} (e : Ext ρ H ρ' H') (h : FrL K ρ H a xs) : FrL K ρ' H' a xs := FrL.ext0 e.to0 h
theorem TabsX.ext0 (T : TabsX K CM ρ H) (c : Cel ρ H) (e : Ext0 ρ H ρ' H') (t : LamX.Tabs CM.t H') : TabsX K CM ρ' H' := ⟨t, fun p hp => by
  obtain ⟨a, b, k⟩ := T.fx p hp
  exact ⟨e.keep _ _ a b k, e.notMem a b, k⟩, T.cap.ext0 c e, T.lo⟩
theorem low_kvs {n : Nat} : ∀ {kvs : List (Key × D)}, lowK n kvs = true → lowL n (kvs.map (·.2)) = true
  | [], _ => rfl
  | (k, d) :: r, q => Bool.and_eq_true_iff.mpr ⟨(Bool.and_eq_true_iff.mp (show (low n d && lowK n r) = true from q)).1, low_kvs (Bool.and_eq_true_iff.mp (show (low n d && lowK n r) = true from q)).2⟩
theorem low_fs {n : Nat} : ∀ {kvs : List (Str × D)}, lowF n kvs = true → lowL n (kvs.map (·.2)) = true
  | [], _ => rfl
  | (k, d) :: r, q => Bool.and_eq_true_iff.mpr ⟨(Bool.and_eq_true_iff.mp (show (low n d && lowF n r) = true from q)).1, low_fs (Bool.and_eq_true_iff.mp (show (low n d && lowF n r) = true from q)).2⟩
mutual
theorem Den.flat (o : ∀ b, b ∉ ρ → b ∉ ρ') : ∀ {v : V} {d : D}, Den K CM ρ H v d → low 0 d = true → Den K CM ρ' H v d
  | _, _, .non, _ => .non
  | _, _, .bl b, _ => .bl b
  | _, _, .int i, _ => .int i
  | _, _, .str s, _ => .str s
  | _, _, .tup h t, q => .tup h (DenL.flat o t q)
  | _, _, .lst h t, q => .lst (h.elim (fun z => .inl ⟨z.1, o _ z.2⟩) .inr) (DenL.flat o t q)
  | _, _, .dic h n k t, q => .dic h (o _ n) k (DenL.flat o t (low_kvs q))
  | _, _, .obj k h n m t, q => .obj k h (o _ n) m (DenL.flat o t (low_fs q))
  | _, .ref n, .ref h, q => absurd (of_decide_eq_true (show decide (n < 0) = true from q)) (Nat.not_lt_zero n)
  | _, _, .err0 _ _, q => by cases q
  | _, _, .err _ _ _ _ _, q => by cases q
  | _, _, .xo k h m t, q => .xo k (h.of o) m (DenL.flat o t (low_fs q))
theorem DenL.flat (o : ∀ b, b ∉ ρ → b ∉ ρ') : ∀ {vs : List V} {ds : List D}, DenL K CM ρ H vs ds → lowL 0 ds = true → DenL K CM ρ' H vs ds
  | _, _, .nil, _ => .nil
  | _, _, .cons h t, q => .cons (Den.flat o h (Bool.and_eq_true_iff.mp q).1) (DenL.flat o t (Bool.and_eq_true_iff.mp q).2)
end
theorem TabsX.flat (T : TabsX K CM ρ H) (o : ∀ b, b ∉ ρ → b ∉ ρ') : TabsX K CM ρ' H := ⟨T.tb, fun p hp => by
  obtain ⟨a, b, k⟩ := T.fx p hp
  exact ⟨a, o _ b, k⟩, T.cap.flat o T.lo, T.lo⟩
/-- a new object that is no cell -/
theorem Ext.fresh {p : Addr} {o : HO} (hp : H p = none) : Ext ρ H ρ (upd H p o) :=
  ⟨⟨[], by simp, rfl, by simp⟩, fun b u e _ _ => by rw [upd_ne (ne_of_none e hp)]; exact e, tb_upd (not_cell hp), fz_upd (nofz0 hp)⟩
theorem Cel.notMem (c : Cel ρ H) {p : Addr} (hp : H p = none) : p ∉ ρ := fun q => by
  obtain ⟨o, e, _⟩ := c p q
  rw [hp] at e; cases e
theorem CellOk.ext0 {a : Addr} {c : Cell} (cl : Cel ρ H) (e : Ext0 ρ H ρ' H') (ha : ∀ o, H a = some o → H' a = some o) (h : CellOk K CM ρ H a c) : CellOk K CM ρ' H' a c := by
  cases c with
  | lst ds => obtain ⟨vs, q, t⟩ := h; exact ⟨vs, ha _ q, t.ext0 cl e⟩
  | dic dks => obtain ⟨vs, q, k, t⟩ := h; exact ⟨vs, ha _ q, k, t.ext0 cl e⟩
  | obj c dfs => obtain ⟨C, dx, fs, m, q, k, t⟩ := h; exact ⟨C, dx, fs, m, ha _ q, k, t.ext0 cl e⟩
  | dkl dks => obtain ⟨o, vs, q, k, t⟩ := h; exact ⟨o, vs, ha _ q, k, t.ext0 cl e⟩
  | dt dks => obtain ⟨L, ⟨P, w, m, q⟩, ⟨k, f⟩, t⟩ := h; exact ⟨L, ⟨P, w, m, ha _ q⟩, ⟨k, fun p hp => SqT.ext0 cl e (f p hp)⟩, t.ext0 cl e⟩
  | dtl dks => obtain ⟨o, L, ⟨P, w, m, q⟩, ⟨k, f⟩, t⟩ := h; exact ⟨o, L, ⟨P, w, m, ha _ q⟩, ⟨k, fun p hp => SqT.ext0 cl e (f p hp)⟩, t.ext0 cl e⟩
theorem CellOk.ext {a : Addr} {c : Cell} (cl : Cel ρ H) (e : Ext ρ H ρ' H') (ha : ∀ o, H a = some o → H' a = some o) (h : CellOk K CM ρ H a c) : CellOk K CM ρ' H' a c := h.ext0 cl e.to0 ha
theorem Sim.fresh (S : Sim K CM ρ h H) {p : Addr} {o : HO} (hp : H p = none) : Sim K CM ρ h (upd H p o) := by
  have kp : ∀ {a : Addr} (u : HO), H a = some u → upd H p o a = some u := fun {a} u q => by rw [upd_ne (ne_of_none q hp)]; exact q
  refine ⟨S.len, S.nd, fun a ha => ?_, fun n a c e1 e2 => (S.cell n a c e1 e2).ext S.cel (Ext.fresh hp) kp, S.tab.ext0 S.cel (Ext.fresh hp).to0 (tabs_upd S.tab.tb (not_cell hp))⟩
  obtain ⟨h1, u, h2, h3⟩ := S.hid a ha
  exact ⟨h1, u, kp u h2, h3⟩
/-- a cell is written -/
theorem Cel.at_ (c : Cel ρ H) {a : Addr} (ha : a ∈ ρ) : ∀ u, H a = some u → isCell u = true := fun u e => by
  obtain ⟨o, e2, h⟩ := c a ha
  rw [e] at e2
  cases e2
  exact h
theorem Ext.cellSet {a : Addr} {o : HO} (cl : Cel ρ H) (ha : a ∈ ρ.c) (hz : ∀ o u, H a ≠ some (.frz o u)) : Ext ρ H ρ (upd H a o) :=
  ⟨⟨[], by simp, rfl, by simp⟩, fun b u e n _ => by rw [upd_ne (fun q => n (by rw [q]; exact ha))]; exact e, tb_upd (cl.at_ (.inl ha)), fz_upd hz⟩
theorem Sim.cellSet (S : Sim K CM ρ h H) {n : Nat} {a : Addr} {o : HO} {c : Cell} (e : ρ.c[n]? = some a) (hz : ∀ o u, H a ≠ some (.frz o u)) (ok : CellOk K CM ρ (upd H a o) a c) : Sim K CM ρ (h.set n c) (upd H a o) := by
  have hm : a ∈ ρ.c := List.mem_of_getElem? e
  refine ⟨by simp [S.len], S.nd, fun b hb => ?_, fun k b c' e1 e2 => ?_, S.tab.ext0 S.cel (Ext.cellSet S.cel hm hz).to0 (tabs_upd S.tab.tb (S.cel.at_ (.inl hm)))⟩
  · obtain ⟨h1, u, h2, h3⟩ := S.hid b hb
    exact ⟨h1, u, by rw [upd_ne (fun q => h1 (by rw [q]; exact hm))]; exact h2, h3⟩
  by_cases hk : k = n
  · subst hk
    rw [e] at e1; cases e1
    have hlt := (List.getElem?_eq_some_iff.mp e2).1
    simp at hlt
    rw [List.getElem?_set_self hlt] at e2
    cases e2
    exact ok
  · rw [List.getElem?_set_ne (Ne.symm hk)] at e2
    have hb : b ≠ a := fun q => by
      subst q
      obtain ⟨h1, f1⟩ := List.getElem?_eq_some_iff.mp e1
      obtain ⟨h2, f2⟩ := List.getElem?_eq_some_iff.mp e
      exact hk ((List.getElem_inj S.nd).mp (f1.trans f2.symm))
    exact (S.cell k b c' e1 e2).ext S.cel (Ext.cellSet S.cel hm hz) fun u q => by rw [upd_ne hb]; exact q
/-! hidden places -/
theorem Ext0.hide {p : Addr} {o : HO} (hp : H p = none) : Ext0 ρ H (ρ.hide p) (upd H p o) :=
  ⟨⟨[], [p], by simp [Gh.hide], rfl, by simp, by simp [hp]⟩, fun b u e _ _ => by rw [upd_ne (ne_of_none e hp)]; exact e, tb_upd (not_cell hp)⟩
theorem Sim.hide (S : Sim K CM ρ h H) {p : Addr} {o : HO} (hp : H p = none) (ho : DL.isCell o = true) : Sim K CM (ρ.hide p) h (upd H p o) := by
  have kp : ∀ {a : Addr} (u : HO), H a = some u → upd H p o a = some u := fun {a} u q => by rw [upd_ne (ne_of_none q hp)]; exact q
  refine ⟨S.len, S.nd, fun a ha => ?_, fun n a c e1 e2 => (S.cell n a c e1 e2).ext0 S.cel (Ext0.hide hp) kp, S.tab.ext0 S.cel (Ext0.hide hp) (tabs_upd S.tab.tb (not_cell hp))⟩
  rcases List.mem_cons.mp ha with e | ha
  · subst e
    exact ⟨fun z => S.cel.notMem hp (.inl z), o, upd_same, ho⟩
  · obtain ⟨h1, u, h2, h3⟩ := S.hid a ha
    exact ⟨h1, u, kp u h2, h3⟩
theorem Ext0.setHid {p : Addr} {o : HO} (cl : Cel ρ H) (hp : p ∈ ρ.p) : Ext0 ρ H ρ (upd H p o) :=
  ⟨⟨[], [], by simp, rfl, by simp, by simp⟩, fun b u e n _ => by rw [upd_ne (fun z => n (by rw [z]; exact .inr hp))]; exact e, tb_upd (cl.at_ (.inr hp))⟩
theorem Sim.setHid (S : Sim K CM ρ h H) {p : Addr} {o : HO} (hp : p ∈ ρ.p) (ho : DL.isCell o = true) : Sim K CM ρ h (upd H p o) := by
  have hn := (S.hid p hp).1
  refine ⟨S.len, S.nd, fun a ha => ?_, fun n a c e1 e2 => (S.cell n a c e1 e2).ext0 S.cel (Ext0.setHid S.cel hp) fun u q => ?_, S.tab.ext0 S.cel (Ext0.setHid S.cel hp) (tabs_upd S.tab.tb (S.cel.at_ (.inr hp)))⟩
  · obtain ⟨h1, u, h2, h3⟩ := S.hid a ha
    by_cases e : a = p
    · subst e
      exact ⟨h1, o, upd_same, ho⟩
    · exact ⟨h1, u, by rw [upd_ne e]; exact h2, h3⟩
  · have : a ≠ p := fun z => by subst z; exact hn (List.mem_of_getElem? e1)
    rw [upd_ne this]; exact q
theorem notMem_unhide {p a : Addr} (h : a ∉ ρ.hide p) : a ∉ ρ := fun z => by
  rcases Gh.mem.mp z with z | z
  · exact h (.inl z)
  · exact h (.inr (List.mem_cons_of_mem _ z))
mutual
theorem Den.unhide {p : Addr} : ∀ {v : V} {d : D}, Den K CM (ρ.hide p) H v d → Den K CM ρ H v d
  | _, _, .non => .non
  | _, _, .bl b => .bl b
  | _, _, .int i => .int i
  | _, _, .str s => .str s
  | _, _, .tup h t => .tup h (DenL.unhide t)
  | _, _, .lst h t => .lst (h.elim (fun z => .inl ⟨z.1, notMem_unhide z.2⟩) .inr) (DenL.unhide t)
  | _, _, .dic h n k t => .dic h (notMem_unhide n) k (DenL.unhide t)
  | _, _, .obj k h n m t => .obj k h (notMem_unhide n) m (DenL.unhide t)
  | _, _, .ref h => .ref h
  | _, _, .err0 h k => .err0 h k
  | _, _, .err h k o m t => .err h k o m (DenL.unhide t)
  | _, _, .xo k h m t => .xo k (h.of fun _ => notMem_unhide) m (DenL.unhide t)
theorem DenL.unhide {p : Addr} : ∀ {vs : List V} {ds : List D}, DenL K CM (ρ.hide p) H vs ds → DenL K CM ρ H vs ds
  | _, _, .nil => .nil
  | _, _, .cons h t => .cons (Den.unhide h) (DenL.unhide t)
end
theorem Sim.unhide {p : Addr} (S : Sim K CM (ρ.hide p) h H) : Sim K CM ρ h H := by
  refine ⟨S.len, S.nd, fun a ha => S.hid a (List.mem_cons_of_mem _ ha), fun n a c e1 e2 => ?_, S.tab.flat fun _ => notMem_unhide⟩
  have ok := S.cell n a c e1 e2
  cases c with
  | lst ds => obtain ⟨vs, q, t⟩ := ok; exact ⟨vs, q, t.unhide⟩
  | dic dks => obtain ⟨vs, q, k, t⟩ := ok; exact ⟨vs, q, k, t.unhide⟩
  | obj c dfs => obtain ⟨C, dx, fs, m, q, k, t⟩ := ok; exact ⟨C, dx, fs, m, q, k, t.unhide⟩
  | dkl dks => obtain ⟨o, vs, q, k, t⟩ := ok; exact ⟨o, vs, q, k, t.unhide⟩
  | dt dks => obtain ⟨vs, q, k, t⟩ := ok; exact ⟨vs, q, k, t.unhide⟩
  | dtl dks => obtain ⟨o, vs, q, k, t⟩ := ok; exact ⟨o, vs, q, k, t.unhide⟩
end

/-! ### results, environments -/
inductive R (α : Type) where
  | ok (a : α) (h : List Cell) | exc (e : D) (h : List Cell) | bad
def R.bind {α β : Type} (r : R α) (k : α → List Cell → R β) : R β := match r with
  | .ok a h => k a h
  | .exc e h => .exc e h
  | .bad => .bad
abbrev En := List (Option D)
abbrev DE := En → List Cell → R D
abbrev DEs := En → List Cell → R (List D)
abbrev DT := En → List Cell → R Bool
def EnvOk (K : PySem.W.Frag) (CM : CMap) (ρ : Gh) (H : Hp) (σ : L2.St) (env : En) : Prop :=
  env.length = σ.length ∧ ∀ (i : Nat) (d : D), env[i]? = some (some d) → ∃ v, σ[i]? = some (some v) ∧ Den K CM ρ H v d
/-- an exception as it flies: its class, its own dict -/
def ExcD (K : PySem.W.Frag) (CM : CMap) (ρ : Gh) (H : Hp) (cls : Value) (od : Option Addr) : D → Prop
  | .obj c dfs => ∃ C, CM.c c C ∧ cls = .ref C ∧ ((dfs = [] ∧ od = none) ∨ ∃ d fs, od = some d ∧ H d = some (.xd fs) ∧ fs.map (·.1) = dfs.map (·.1) ∧ DenL K CM ρ H (fs.map (·.2)) (dfs.map (·.2)))
  | _ => False
section
variable {K : PySem.W.Frag} {CM : CMap} {ρ ρ1 ρ2 : Gh} {h h1 : List Cell} {H H1 H2 : Hp} {σ : L2.St} {env : En}
theorem EnvOk.ext (e : EnvOk K CM ρ H σ env) (c : Cel ρ H) (x : Ext ρ H ρ1 H1) : EnvOk K CM ρ1 H1 σ env :=
  ⟨e.1, fun i d q => by
    obtain ⟨v, a, b⟩ := e.2 i d q
    exact ⟨v, a, b.ext c x⟩⟩
theorem EnvOk.ext0 (e : EnvOk K CM ρ H σ env) (c : Cel ρ H) (x : Ext0 ρ H ρ1 H1) : EnvOk K CM ρ1 H1 σ env :=
  ⟨e.1, fun i d q => by
    obtain ⟨v, a, b⟩ := e.2 i d q
    exact ⟨v, a, b.ext0 c x⟩⟩
theorem EnvOk.set {v : V} {d : D} (e : EnvOk K CM ρ H σ env) (i : Nat) (q : Den K CM ρ H v d) : EnvOk K CM ρ H (σ.set i (some v)) (env.set i (some d)) := by
  refine ⟨by simp [e.1], fun j d' hj => ?_⟩
  by_cases hij : i = j
  · subst hij
    have hlt := (List.getElem?_eq_some_iff.mp hj).1
    simp at hlt
    rw [List.getElem?_set_self hlt] at hj
    cases hj
    exact ⟨v, by rw [List.getElem?_set_self (by rw [← e.1]; exact hlt)], q⟩
  · rw [List.getElem?_set_ne hij] at hj
    obtain ⟨v', a, b⟩ := e.2 j d' hj
    exact ⟨v', by rw [List.getElem?_set_ne hij]; exact a, b⟩
theorem EnvOk.clear (e : EnvOk K CM ρ H σ env) (i : Nat) : EnvOk K CM ρ H (σ.set i none) (env.set i none) := by
  refine ⟨by simp [e.1], fun j d' hj => ?_⟩
  by_cases hij : i = j
  · subst hij
    have hlt := (List.getElem?_eq_some_iff.mp hj).1
    simp at hlt
    rw [List.getElem?_set_self hlt] at hj
    cases hj
  · rw [List.getElem?_set_ne hij] at hj
    obtain ⟨v', a, b⟩ := e.2 j d' hj
    exact ⟨v', by rw [List.getElem?_set_ne hij]; exact a, b⟩
def wipeE (env : En) : List Nat → En
  | [] => env
  | v :: vs => (wipeE env vs).set v none
theorem EnvOk.wipe (e : EnvOk K CM ρ H σ env) : ∀ vs : List Nat, EnvOk K CM ρ H (L2.wipe σ vs) (wipeE env vs)
  | [] => e
  | v :: vs => (EnvOk.wipe e vs).clear v
theorem ExcD.ext {cls : Value} {od : Option Addr} {d : D} (c : Cel ρ H) (x : Ext ρ H ρ1 H1) (e : ExcD K CM ρ H cls od d) : ExcD K CM ρ1 H1 cls od d := by
  cases d with
  | obj k dfs =>
    obtain ⟨C, h1, h2, h3⟩ := e
    refine ⟨C, h1, h2, ?_⟩
    rcases h3 with h3 | ⟨d, fs, e1, e2, e3, e4⟩
    · exact .inl h3
    · refine .inr ⟨d, fs, e1, x.keep _ _ e2 fun hm => ?_, e3, e4.ext c x⟩
      obtain ⟨o, z, y⟩ := c d (.inl hm)
      rw [e2] at z; cases z; cases y
  | _ => exact e.elim
end

/-! ### readings by data -/
section
variable (K : PySem.W.Frag) (CM : CMap) (W : WX)
/-- what follows a result: Rel ties the model's answer to the data -/
def okP {α β : Type} (Rel : Gh → Hp → β → α → Prop) (ρ : Gh) (H : Hp) (σ : L2.St) (r : R α) (Q : β → Hp → Prop) : Prop := match r with
  | .ok d h' => ∀ ρ' H' v, Ext ρ H ρ' H' → Sim K CM ρ' h' H' → Rel ρ' H' v d → Q v H'
  | .exc e h' => ∀ ρ' H' cls od, Ext ρ H ρ' H' → Sim K CM ρ' h' H' → ExcD K CM ρ' H' cls od e → W cls od σ H'
  | .bad => False
def rV : Gh → Hp → V → D → Prop := fun ρ H v d => Den K CM ρ H v d
def rL : Gh → Hp → List V → List D → Prop := fun ρ H v d => DenL K CM ρ H v d
def rB : Gh → Hp → Bool → Bool → Prop := fun _ _ b c => b = c
def tD (d : DE) : TE := fun σ H Q => ∃ ρ env h, Sim K CM ρ h H ∧ EnvOk K CM ρ H σ env ∧ okP K CM W (rV K CM) ρ H σ (d env h) Q
def tDs (d : DEs) : TA := fun σ H Q => ∃ ρ env h, Sim K CM ρ h H ∧ EnvOk K CM ρ H σ env ∧ okP K CM W (rL K CM) ρ H σ (d env h) Q
def tDT (d : DT) : TT := fun σ H Q => ∃ ρ env h, Sim K CM ρ h H ∧ EnvOk K CM ρ H σ env ∧ okP K CM W rB ρ H σ (d env h) Q
end
section
variable {K : PySem.W.Frag} {CM : CMap} {W : WX} {ρ ρ1 : Gh} {h h1 : List Cell} {H H1 : Hp} {σ : L2.St} {env : En} {α β γ δ : Type} {Rel : Gh → Hp → β → α → Prop} {Rel' : Gh → Hp → δ → γ → Prop}
theorem okP.mono {r : R α} {Q Q' : β → Hp → Prop} (x : okP K CM W Rel ρ H σ r Q) (hq : ∀ v H', Q v H' → Q' v H') : okP K CM W Rel ρ H σ r Q' := by
  cases r with
  | ok d h' => exact fun ρ' H' v e s q => hq _ _ (x ρ' H' v e s q)
  | exc e h' => exact x
  | bad => exact x
theorem okP.from {r : R α} {Q : β → Hp → Prop} (x : okP K CM W Rel ρ H σ r Q) (c : Cel ρ1 H1) (e : Ext ρ H ρ1 H1) : okP K CM W Rel ρ1 H1 σ r Q := by
  cases r with
  | ok d h' => exact fun ρ' H' v e' s q => x ρ' H' v (e.trans e' c) s q
  | exc e2 h' => exact fun ρ' H' cls od e' s q => x ρ' H' cls od (e.trans e' c) s q
  | bad => exact x
/-- one after another -/
theorem okP.bind {r : R α} {k : α → List Cell → R γ} {Q : δ → Hp → Prop} (x : okP K CM W Rel' ρ H σ (r.bind k) Q) :
    okP K CM W Rel ρ H σ r (fun v H1 => ∃ ρ1 h1 d, Ext ρ H ρ1 H1 ∧ Sim K CM ρ1 h1 H1 ∧ Rel ρ1 H1 v d ∧ okP K CM W Rel' ρ1 H1 σ (k d h1) Q) := by
  cases r with
  | ok d h' => exact fun ρ' H' v e s q => ⟨ρ', h', d, e, s, q, okP.from x s.cel e⟩
  | exc e h' => exact x
  | bad => exact x
theorem okP.val {d : α} {v : β} {Q : β → Hp → Prop} (x : okP K CM W Rel ρ H σ (.ok d h) Q) (S : Sim K CM ρ h H) (q : Rel ρ H v d) : Q v H := x ρ H v Ext.refl S q
theorem okP.newTup {ds : List D} {vs : List V} {Q : V → Hp → Prop} (x : okP K CM W (rV K CM) ρ H σ (.ok (.tup ds) h) Q) (S : Sim K CM ρ h H) (q : DenL K CM ρ H vs ds) {p : Addr} (hp : H p = none) : Q (.ref p) (upd H p (.tup vs)) :=
  x ρ _ _ (Ext.fresh hp) (S.fresh hp) (.tup (.of upd_same) (q.ext S.cel (Ext.fresh hp)))
theorem okP.newLst {ds : List D} {vs : List V} {Q : V → Hp → Prop} (x : okP K CM W (rV K CM) ρ H σ (.ok (.lst ds) h) Q) (S : Sim K CM ρ h H) (q : DenL K CM ρ H vs ds) {p : Addr} (hp : H p = none) : Q (.ref p) (upd H p (.lst vs)) :=
  x ρ _ _ (Ext.fresh hp) (S.fresh hp) (.lst (.inl ⟨.inl upd_same, S.cel.notMem hp⟩) (q.ext S.cel (Ext.fresh hp)))
end

theorem PE.imp {X : Cx} {e : Expr} {t t' : TE} (p : PE X e t) (h : ∀ σ H Q, t' σ H Q → t σ H Q) : PE X e t' := ⟨fun pins s σ H Q I w => p.run pins s σ H Q I (h σ H Q w)⟩
theorem PT.imp {X : Cx} {e : Expr} {t t' : TT} (p : PT X e t) (h : ∀ σ H Q, t' σ H Q → t σ H Q) : PT X e t' := ⟨fun pins s σ H Q I w => p.run pins s σ H Q I (h σ H Q w)⟩
theorem PW.imp {X : Cx} {e : Expr} {t t' : TT} (p : PW X e t) (h : ∀ σ H Q, t' σ H Q → t σ H Q) : PW X e t' := ⟨fun wh pins s σ H Q I w => p.run wh pins s σ H Q I (h σ H Q w)⟩
theorem PA.imp {X : Cx} {e : List Expr} {t t' : TA} (p : PA X e t) (h : ∀ σ H Q, t' σ H Q → t σ H Q) : PA X e t' := ⟨fun pos pins s σ H Q I w => p.run pos pins s σ H Q I (h σ H Q w)⟩
theorem PS.imp {X : Cx} {e : Stmt} {t t' : TS} (p : PS X e t) (h : ∀ D σ H, t' D σ H → t D σ H) : PS X e t' := ⟨fun pins s σ H D I w => p.run pins s σ H D I (h D σ H w)⟩
theorem PSs.imp {X : Cx} {e : List Stmt} {t t' : TS} (p : PSs X e t) (h : ∀ D σ H, t' D σ H → t D σ H) : PSs X e t' := ⟨fun pins s σ H D I w => p.run pins s σ H D I (h D σ H w)⟩
end
end DL

namespace DL
noncomputable section
open PySem PySem.Spec PyProof.Rows L2

/-! ### data of the library -/
mutual
def D.toP : D → Option PyData
  | .non => some .none
  | .bl b => some (.bool b)
  | .int i => some (.int i)
  | .str s => some (.str s)
  | .tup ds => (toPs ds).map .tuple
  | .lst ds => (toPs ds).map .list
  | .dic kvs => (toPk kvs).map .dict
  | .obj _ _ => none
  | .ref _ => none
  | .err _ _ => none
  | .xo _ _ => none
def toPs : List D → Option (List PyData)
  | [] => some []
  | d :: ds => match d.toP, toPs ds with
    | some x, some xs => some (x :: xs)
    | _, _ => none
def toPk : List (Key × D) → Option (List (PyData × PyData))
  | [] => some []
  | (k, d) :: ds => match d.toP, toPk ds with
    | some x, some xs => some ((match k with | .inl i => .int i | .inr s => .str s, x) :: xs)
    | _, _ => none
end
def keyP : Key → PyData
  | .inl i => .int i
  | .inr s => .str s
theorem toPs_cons {d : D} {ds : List D} {p : List PyData} (h : toPs (d :: ds) = some p) : ∃ x xs, p = x :: xs ∧ d.toP = some x ∧ toPs ds = some xs := by
  unfold toPs at h
  split at h
  · rename_i x xs e1 e2
    exact ⟨x, xs, (Option.some.inj h).symm, e1, e2⟩
  · cases h
theorem toPk_cons {k : Key} {d : D} {ds : List (Key × D)} {p : List (PyData × PyData)} (h : toPk ((k, d) :: ds) = some p) : ∃ x xs, p = (keyP k, x) :: xs ∧ d.toP = some x ∧ toPk ds = some xs := by
  unfold toPk at h
  split at h
  · rename_i x xs e1 e2
    refine ⟨x, xs, ?_, e1, e2⟩
    rw [← Option.some.inj h]
    cases k <;> rfl
  · cases h
theorem toPk_split : ∀ {ds : List (Key × D)} {p : List (PyData × PyData)}, toPk ds = some p → toPs (ds.map (·.2)) = some (p.map (·.2)) ∧ p.map (·.1) = ds.map fun kd => keyP kd.1
  | [], p, h => by
    unfold toPk at h
    cases h
    exact ⟨rfl, rfl⟩
  | (k, d) :: ds, p, h => by
    obtain ⟨x, xs, rfl, e1, e2⟩ := toPk_cons h
    obtain ⟨q1, q2⟩ := toPk_split e2
    refine ⟨?_, by simp [q2]⟩
    show toPs (d :: ds.map (·.2)) = _
    unfold toPs
    rw [e1, q1]
    rfl

section
variable {X : Cx} {pins : List (Addr × Obj)} {σ : L2.St} {H : Hp} {s : Shared} {CM : CMap} {ρ : Gh}
theorem keys_read {h : Heap} : ∀ {es : List DictEntry} {kvs : List (Key × Value)}, Pairs (mixKind X.prog X.w) es kvs → ∃ as, ReadsAll h (es.map (·.key)) (kvs.map fun kv => keyP kv.1) as ∧ as = []
  | _, _, .nil => ⟨[], .nil, rfl⟩
  | _, _, .cons (e := e) (kv := kv) h1 _ t => by
    obtain ⟨as, q, rfl⟩ := keys_read (h := h) t
    rcases keyIs_shape (show keyIs kv.1 e.key = true from h1) with ⟨i, t, e1, e2⟩ | ⟨x, t, e1, e2⟩
    · refine ⟨[] ++ [], .cons (show Reads h e.key (keyP kv.1) [] from ?_) q, rfl⟩
      rw [e2, e1]
      exact Reads.int i t
    · refine ⟨[] ++ [], .cons (show Reads h e.key (keyP kv.1) [] from ?_) q, rfl⟩
      rw [e2, e1]
      exact Reads.str x t
theorem pairs_vals : ∀ {es : List DictEntry} {kvs : List (Key × Value)}, Pairs (mixKind X.prog X.w) es kvs → es.map (·.val) = kvs.map (·.2)
  | _, _, .nil => rfl
  | _, _, .cons _ h2 t => by
    rw [List.map_cons, List.map_cons, pairs_vals t, h2]
theorem kv_vals : ∀ {kvs : List (Key × V)} {vs : List (Key × Value)}, KV kvs vs → Vals (kvs.map (·.2)) (vs.map (·.2)) ∧ kvs.map (·.1) = vs.map (·.1)
  | _, _, .nil => ⟨.nil, rfl⟩
  | _, _, .cons r t => by
    obtain ⟨a, b⟩ := kv_vals t
    exact ⟨.cons r.2 a, by rw [List.map_cons, List.map_cons, r.1, b]⟩
/-- the table of modules is none of these -/
def SysK (K : PySem.W.Frag) : Prop := ∃ o : Obj, K.lookup sysModules = some o ∧ o.cls ≠ .type "list"
def NoSys (K : PySem.W.Frag) (as : List Addr) : Prop := SysK K → sysModules ∉ as
theorem NoSys.nil {K : PySem.W.Frag} : NoSys K [] := fun _ h => nomatch h
theorem NoSys.append {K : PySem.W.Frag} {as bs : List Addr} (a : NoSys K as) (b : NoSys K bs) : NoSys K (as ++ bs) := fun k h => (List.mem_append.mp h).elim (a k) (b k)
theorem NoSys.cons {K : PySem.W.Frag} {a : Addr} {as : List Addr} (h : SysK K → a ≠ sysModules) (t : NoSys K as) : NoSys K (a :: as) := fun k m => (List.mem_cons.mp m).elim (fun e => h k e.symm) (t k)
theorem list_noSys (I : Inv X pins σ H s) {a : Addr} {o : Obj} (e : s.heap.get? a = some o) (hc : o.cls = .type "list") : SysK X.K → a ≠ sysModules := fun ⟨o', k, n⟩ q => by
  subst q
  rw [I.kIn _ _ k] at e
  cases e
  exact n hc
mutual
theorem Den.reads (I : Inv X pins σ H s) : ∀ (d : D) (v : V) (u : Value) (p : PyData), Den X.K CM ρ H v d → d.toP = some p → RelV v u → ∃ as, Reads s.heap u p as ∧ NoSys X.K as
  | .non, _, _, _, h, e, r => by
    cases h; cases r
    cases e
    exact ⟨_, Reads.none, .nil⟩
  | .bl b, _, _, _, h, e, r => by
    cases h; cases r
    cases e
    exact ⟨_, Reads.bool b, .nil⟩
  | .int i, _, _, _, h, e, r => by
    cases h
    obtain ⟨t, rfl⟩ := r
    cases e
    exact ⟨_, Reads.int i t, .nil⟩
  | .str x, _, _, _, h, e, r => by
    cases h
    obtain ⟨t, rfl⟩ := r
    cases e
    exact ⟨_, Reads.str x t, .nil⟩
  | .lst ds, _, _, p, h, e, r => by
    cases h with
    | lst hs ha =>
      cases r
      have e' : (toPs ds).map PyData.list = some p := e
      obtain ⟨ps, e1, rfl⟩ := Option.map_eq_some_iff.mp e'
      obtain ⟨its, rv, ⟨o, n, ho, hc, _, hd⟩, _⟩ := I.list hs.sql
      obtain ⟨as, hr, ns⟩ := DenL.reads I ds _ its ps ha e1 rv
      exact ⟨_, Reads.list ho hc hd hr, ns.cons (list_noSys I ho hc)⟩
  | .tup ds, _, _, p, h, e, r => by
    cases h with
    | tup hs ha =>
      cases r
      have e' : (toPs ds).map PyData.tuple = some p := e
      obtain ⟨ps, e1, rfl⟩ := Option.map_eq_some_iff.mp e'
      obtain ⟨its, rv, ⟨o, ho, hc, n, hd⟩, _⟩ := I.tuple hs
      obtain ⟨as, hr, ns⟩ := DenL.reads I ds _ its ps ha e1 rv
      exact ⟨_, Reads.tuple ho hc hd hr, ns⟩
  | .dic dks, _, _, p, h, e, r => by
    cases h with
    | dic hs hn hk ha =>
      cases r
      have e' : (toPk dks).map PyData.dict = some p := e
      obtain ⟨ps, e1, rfl⟩ := Option.map_eq_some_iff.mp e'
      obtain ⟨q1, q2⟩ := toPk_split e1
      obtain ⟨_, hsys, vs, rv, o, es, ep, ho, hex, hd, hks, hp, hnd⟩ := I.hok _ _ hs
      obtain ⟨v1, v2⟩ := kv_vals rv
      obtain ⟨as, hr, ns⟩ := DenVals.reads I dks _ (vs.map (·.2)) (ps.map (·.2)) ha q1 v1
      obtain ⟨bs, hr2, hbs⟩ := keys_read (h := s.heap) hp
      refine ⟨_, Reads.dict ho hex.1 hd (as := bs) ?_ (bs := as) ?_, (NoSys.cons (fun _ => (beq_eq_false_iff_ne.mp hsys)) (by rw [hbs]; exact .nil)).append ns⟩
      · have e3 : vs.map (fun kv => keyP kv.1) = ps.map (fun x => x.1) := by
          have e4 : vs.map (fun kv => keyP kv.1) = (vs.map (·.1)).map keyP := by rw [List.map_map]; rfl
          have e5 : (ps.map fun x => x.1) = (dks.map (·.1)).map keyP := by rw [q2, List.map_map]; rfl
          rw [e4, e5, ← v2, hk]
        rw [← e3]
        exact hr2
      · rw [pairs_vals hp]
        exact hr
  | .obj _ _, _, _, _, _, e, _ => by cases e
  | .ref _, _, _, _, _, e, _ => by cases e
  | .err _ _, _, _, _, _, e, _ => by cases e
  | .xo _ _, _, _, _, _, e, _ => by cases e
theorem DenL.reads (I : Inv X pins σ H s) : ∀ (ds : List D) (vs : List V) (us : List Value) (ps : List PyData), DenL X.K CM ρ H vs ds → toPs ds = some ps → Vals vs us → ∃ as, ReadsAll s.heap us ps as ∧ NoSys X.K as
  | [], _, _, _, h, e, r => by
    cases h
    cases r
    cases e
    exact ⟨_, ReadsAll.nil, .nil⟩
  | d :: ds, _, _, _, h, e, r => by
    cases h with
    | cons h1 h2 =>
      cases r with
      | cons r1 r2 =>
        obtain ⟨x, xs, rfl, e1, e2⟩ := toPs_cons e
        obtain ⟨as, q1, n1⟩ := Den.reads I d _ _ _ h1 e1 r1
        obtain ⟨bs, q2, n2⟩ := DenL.reads I ds _ _ _ h2 e2 r2
        exact ⟨_, ReadsAll.cons q1 q2, n1.append n2⟩
theorem DenVals.reads (I : Inv X pins σ H s) : ∀ (dks : List (Key × D)) (vs : List V) (us : List Value) (ps : List PyData), DenL X.K CM ρ H vs (dks.map (·.2)) → toPs (dks.map (·.2)) = some ps → Vals vs us → ∃ as, ReadsAll s.heap us ps as ∧ NoSys X.K as
  | [], _, _, _, h, e, r => by
    cases h
    cases r
    cases e
    exact ⟨_, ReadsAll.nil, .nil⟩
  | (k, d) :: ds, _, _, _, h, e, r => by
    cases h with
    | cons h1 h2 =>
      cases r with
      | cons r1 r2 =>
        obtain ⟨x, xs, rfl, e1, e2⟩ := toPs_cons e
        obtain ⟨as, q1, n1⟩ := Den.reads I d _ _ _ h1 e1 r1
        obtain ⟨bs, q2, n2⟩ := DenVals.reads I ds _ _ _ h2 e2 r2
        exact ⟨_, ReadsAll.cons q1 q2, n1.append n2⟩
end
end
end
end DL

namespace DL
noncomputable section
open PySem PySem.Spec PyProof.Rows L2
variable {X : Cx} {CM : CMap} {W : WX} {pos : Pos} {α β γ δ : Type}

/-! ### the state at hand -/
structure Now (K : PySem.W.Frag) (CM : CMap) (ρ : Gh) (h : List Cell) (H : Hp) (σ : L2.St) (env : En) : Prop where
  sim : Sim K CM ρ h H
  env : EnvOk K CM ρ H σ env
theorem Now.next {K : PySem.W.Frag} {ρ ρ1 : Gh} {h h1 : List Cell} {H H1 : Hp} {σ : L2.St} {env : En} (n : Now K CM ρ h H σ env) (e : Ext ρ H ρ1 H1) (s : Sim K CM ρ1 h1 H1) : Now K CM ρ1 h1 H1 σ env :=
  ⟨s, n.env.ext n.sim.cel e⟩
section
variable {K : PySem.W.Frag} {Rel' : Gh → Hp → δ → γ → Prop} {σ : L2.St} {H : Hp} {Q : δ → Hp → Prop}
/-- the reading of a first part, with what is to be done behind it -/
theorem tD.first {d : DE} {k : D → List Cell → R γ} {ρ : Gh} {env : En} {h : List Cell} (n : Now K CM ρ h H σ env) (x : okP K CM W Rel' ρ H σ ((d env h).bind k) Q) :
    tD K CM W d σ H (fun v H1 => ∃ ρ1 h1 y, Now K CM ρ1 h1 H1 σ env ∧ Ext ρ H ρ1 H1 ∧ Den K CM ρ1 H1 v y ∧ okP K CM W Rel' ρ1 H1 σ (k y h1) Q) :=
  ⟨ρ, env, h, n.sim, n.env, (okP.bind (Rel := rV K CM) x).mono fun _ _ ⟨ρ1, h1, y, e, s, q, z⟩ => ⟨ρ1, h1, y, n.next e s, e, q, z⟩⟩
theorem tDs.first {d : DEs} {k : List D → List Cell → R γ} {ρ : Gh} {env : En} {h : List Cell} (n : Now K CM ρ h H σ env) (x : okP K CM W Rel' ρ H σ ((d env h).bind k) Q) :
    tDs K CM W d σ H (fun v H1 => ∃ ρ1 h1 y, Now K CM ρ1 h1 H1 σ env ∧ Ext ρ H ρ1 H1 ∧ DenL K CM ρ1 H1 v y ∧ okP K CM W Rel' ρ1 H1 σ (k y h1) Q) :=
  ⟨ρ, env, h, n.sim, n.env, (okP.bind (Rel := rL K CM) x).mono fun _ _ ⟨ρ1, h1, y, e, s, q, z⟩ => ⟨ρ1, h1, y, n.next e s, e, q, z⟩⟩
theorem tDT.first {d : DT} {k : Bool → List Cell → R γ} {ρ : Gh} {env : En} {h : List Cell} (n : Now K CM ρ h H σ env) (x : okP K CM W Rel' ρ H σ ((d env h).bind k) Q) :
    tDT K CM W d σ H (fun v H1 => ∃ ρ1 h1, Now K CM ρ1 h1 H1 σ env ∧ Ext ρ H ρ1 H1 ∧ okP K CM W Rel' ρ1 H1 σ (k v h1) Q) :=
  ⟨ρ, env, h, n.sim, n.env, (okP.bind (Rel := rB) x).mono fun _ _ ⟨ρ1, h1, y, e, s, q, z⟩ => ⟨ρ1, h1, n.next e s, e, by rw [show _ = y from q]; exact z⟩⟩
end

/-! ### names, constants -/
def cVar (i : Nat) : DE := fun env h => match env[i]? with
  | some (some d) => .ok d h
  | _ => .bad
theorem d_var (i : Nat) {x : Str} (hN : X.N[i]? = some x := by rfl) (hv : Vis X.env.scope x := by first | exact Or.inl rfl | exact Or.inr (Or.inl rfl) | exact Or.inr (Or.inr rfl)) (hd : (x == ("__debug__" : Str)) = false := by decide)
    (hcd : (x == ("__classdict__" : Str)) = false := by decide) : PE X (.Name x pos) (tD X.K CM W (cVar i)) := by
  refine PE.imp (pe_var hN hv hd hcd) fun σ H Q ⟨ρ, env, h, S, E, x⟩ => ?_
  unfold cVar at x
  split at x
  · rename_i d e
    obtain ⟨v, a, b⟩ := E.2 i d e
    exact ⟨v, a, x.val S b⟩
  · exact x.elim
def cK (d : D) : DE := fun _ h => .ok d h
theorem d_int {i : Int} {j} : PE X (.Constant (.int i) j pos) (tD X.K CM W (cK (.int i))) := PE.imp pe_int fun _ _ _ ⟨_, _, _, S, _, x⟩ => x.val S (.int i)
theorem d_bl {b : Bool} {j} : PE X (.Constant (.bool b) j pos) (tD X.K CM W (cK (.bl b))) := PE.imp pe_bl fun _ _ _ ⟨_, _, _, S, _, x⟩ => x.val S (.bl b)
theorem d_str {b : Str} {j} : PE X (.Constant (.str b) j pos) (tD X.K CM W (cK (.str b))) := PE.imp pe_str fun _ _ _ ⟨_, _, _, S, _, x⟩ => x.val S (.str b)
theorem d_non {j} : PE X (.Constant .none j pos) (tD X.K CM W (cK .non)) := PE.imp pe_non fun _ _ _ ⟨_, _, _, S, _, x⟩ => x.val S .non
/-- a constant of the module -/
theorem d_glob {x : Str} {v : V} {d : D} {u : Value} (hg : Gl X x) (hm : X.mg x = some u) (r : RelV v u) (q : ∀ ρ H, Den X.K CM ρ H v d) (hd : (x == ("__debug__" : Str)) = false := by decide) : PE X (.Name x pos) (tD X.K CM W (cK d)) :=
  PE.imp (pe_glob hg hm r hd) fun _ H _ ⟨ρ, _, _, S, _, x⟩ => x.val S (q ρ H)

/-! ### argument lists, displays -/
def cNil : DEs := fun _ h => .ok [] h
def cCons (d : DE) (ds : DEs) : DEs := fun env h => (d env h).bind fun x h1 => (ds env h1).bind fun xs h2 => .ok (x :: xs) h2
theorem d_nil : PA X [] (tDs X.K CM W cNil) := PA.imp pa_nil fun _ _ _ ⟨_, _, _, S, _, x⟩ => x.val S .nil
theorem d_cons {e : Expr} {es : List Expr} {d : DE} {ds : DEs} (ha : PE X e (tD X.K CM W d)) (hr : PA X es (tDs X.K CM W ds)) (hs : starEach (e :: es) X.env = (false, eval e X.env) :: starEach es X.env := by rfl) :
    PA X (e :: es) (tDs X.K CM W (cCons d ds)) := by
  refine PA.imp (pa_cons ha hr hs) fun σ H Q ⟨ρ, env, h, S, E, x⟩ => ?_
  obtain ⟨r1, r2, r3, r4, r5, r6⟩ := tD.first ⟨S, E⟩ x
  refine ⟨r1, r2, r3, r4, r5, r6.mono fun v H1 ⟨ρ1, h1, y, n, e1, q, z⟩ => ?_⟩
  obtain ⟨r1, r2, r3, r4, r5, r6⟩ := tDs.first n z
  refine ⟨r1, r2, r3, r4, r5, r6.mono fun vs H2 ⟨ρ2, h2, ys, n2, e2, q2, z2⟩ => ?_⟩
  exact z2.val n2.sim (.cons (q.ext n.sim.cel e2) q2)
def cTup (ds : DEs) : DE := fun env h => (ds env h).bind fun xs h1 => if xs.length ≤ sizeLine then .ok (.tup xs) h1 else .bad
def cLst (ds : DEs) : DE := fun env h => (ds env h).bind fun xs h1 => if xs.length ≤ sizeLine then .ok (.lst xs) h1 else .bad
/-- a list that will be changed -/
def cLstC (ds : DEs) : DE := fun env h => (ds env h).bind fun xs h1 => if xs.length ≤ sizeLine then .ok (.ref h1.length) (h1 ++ [.lst xs]) else .bad
theorem d_tup {es : List Expr} {ds : DEs} {x1} (h : PA X es (tDs X.K CM W ds)) : PE X (.Tuple es x1 pos) (tD X.K CM W (cTup ds)) := by
  refine PE.imp (pe_tup h) fun σ H Q ⟨ρ, env, h, S, E, x⟩ => ?_
  obtain ⟨r1, r2, r3, r4, r5, r6⟩ := tDs.first ⟨S, E⟩ x
  refine ⟨r1, r2, r3, r4, r5, r6.mono fun v H1 ⟨ρ1, h1, y, n, e1, q, z⟩ => ?_⟩
  split at z
  · rename_i hz
    exact ⟨by rw [q.length]; exact hz, fun p hp => z.newTup n.sim q hp⟩
  · exact z.elim
theorem d_lst {es : List Expr} {ds : DEs} (h : PA X es (tDs X.K CM W ds)) : PE X (.List es pos) (tD X.K CM W (cLst ds)) := by
  refine PE.imp (pe_lst h) fun σ H Q ⟨ρ, env, h, S, E, x⟩ => ?_
  obtain ⟨r1, r2, r3, r4, r5, r6⟩ := tDs.first ⟨S, E⟩ x
  refine ⟨r1, r2, r3, r4, r5, r6.mono fun v H1 ⟨ρ1, h1, y, n, e1, q, z⟩ => ?_⟩
  split at z
  · rename_i hz
    exact ⟨by rw [q.length]; exact hz, fun p hp => z.newLst n.sim q hp⟩
  · exact z.elim
/-! ### operations on values -/
abbrev F1 := D → List Cell → R D
abbrev F2 := D → D → List Cell → R D
def c1 (f : F1) (a : DE) : DE := fun env h => (a env h).bind f
def c2 (f : F2) (a b : DE) : DE := fun env h => (a env h).bind fun x h1 => (b env h1).bind fun y h2 => f x y h2
/-- f tells what a reading of values asks -/
def Br1 (K : PySem.W.Frag) (CM : CMap) (W : WX) (r : V → Hp → VK → Prop) (f : F1) : Prop :=
  ∀ (ρ : Gh) (h : List Cell) (H : Hp) (σ : L2.St) (v : V) (x : D) (Q : VK), Sim K CM ρ h H → Den K CM ρ H v x → okP K CM W (rV K CM) ρ H σ (f x h) Q → r v H Q
def Br2 (K : PySem.W.Frag) (CM : CMap) (W : WX) (r : R2) (f : F2) : Prop :=
  ∀ (ρ : Gh) (h : List Cell) (H : Hp) (σ : L2.St) (v w : V) (x y : D) (Q : VK), Sim K CM ρ h H → Den K CM ρ H v x → Den K CM ρ H w y → okP K CM W (rV K CM) ρ H σ (f x y h) Q → r v w H Q
section
variable {a b c : Expr} {da db dc : DE}
theorem t2_of {f : F2} {r : R2} (br : Br2 X.K CM W r f) {σ : L2.St} {H : Hp} {Q : VK} (x : tD X.K CM W (c2 f da db) σ H Q) : tOp r (tD X.K CM W da) (tD X.K CM W db) σ H Q := by
  obtain ⟨ρ, env, h, S, E, x⟩ := x
  obtain ⟨r1, r2, r3, r4, r5, r6⟩ := tD.first ⟨S, E⟩ x
  refine ⟨r1, r2, r3, r4, r5, r6.mono fun v H1 ⟨ρ1, h1, y, n, e1, q, z⟩ => ?_⟩
  obtain ⟨r1, r2, r3, r4, r5, r6⟩ := tD.first n z
  refine ⟨r1, r2, r3, r4, r5, r6.mono fun vs H2 ⟨ρ2, h2, ys, n2, e2, q2, z2⟩ => ?_⟩
  exact br ρ2 h2 H2 σ v vs y ys Q n2.sim (q.ext n.sim.cel e2) q2 z2
theorem t1_of {f : F1} {r : V → Hp → VK → Prop} (br : Br1 X.K CM W r f) {σ : L2.St} {H : Hp} {Q : VK} (x : tD X.K CM W (c1 f da) σ H Q) : tD X.K CM W da σ H (fun v H1 => r v H1 Q) := by
  obtain ⟨ρ, env, h, S, E, x⟩ := x
  obtain ⟨r1, r2, r3, r4, r5, r6⟩ := tD.first ⟨S, E⟩ x
  exact ⟨r1, r2, r3, r4, r5, r6.mono fun v H1 ⟨ρ1, h1, y, n, e1, q, z⟩ => br ρ1 h1 H1 σ v y Q n.sim q z⟩
theorem d_op {op : Operator} {f : F2} {r : R2} (ho : OpR X (binaryOp op) r) (br : Br2 X.K CM W r f) (ha : PE X a (tD X.K CM W da)) (hb : PE X b (tD X.K CM W db)) : PE X (.BinOp a op b pos) (tD X.K CM W (c2 f da db)) :=
  PE.imp (pe_op ho ha hb) fun _ _ _ x => t2_of br x
theorem d_un {op : UnaryOp} {f : F1} {r : V → Hp → VK → Prop} (ho : UnR X (unaryOp op) r) (br : Br1 X.K CM W r f) (ha : PE X a (tD X.K CM W da)) : PE X (.UnaryOp op a pos) (tD X.K CM W (c1 f da)) :=
  PE.imp (pe_un ho ha) fun _ _ _ x => t1_of br x
theorem d_cmp {op : CmpOp} {f : F2} {r : R2} (ho : OpR X (compareOp op) r) (br : Br2 X.K CM W r f) (ha : PE X a (tD X.K CM W da)) (hb : PE X b (tD X.K CM W db)) (hm : behindInMarks op b = false := by rfl) : PE X (.Compare a [op] [b] pos) (tD X.K CM W (c2 f da db)) :=
  PE.imp (pe_cmpR ho ha hb hm) fun _ _ _ x => t2_of br x
/-- a value that is a truth -/
def toT (d : DE) : DT := fun env h => (d env h).bind fun x h1 => match x with
  | .bl b => .ok b h1
  | _ => .bad
theorem tT_of {d : DE} {σ : L2.St} {H : Hp} {Q : Bool → Hp → Prop} (x : tDT X.K CM W (toT d) σ H Q) : tD X.K CM W d σ H (fun v H' => ∃ k, v = .bl k ∧ Q k H') := by
  obtain ⟨ρ, env, h, S, E, x⟩ := x
  obtain ⟨r1, r2, r3, r4, r5, r6⟩ := tD.first ⟨S, E⟩ x
  refine ⟨r1, r2, r3, r4, r5, r6.mono fun v H1 ⟨ρ1, h1, y, n, e1, q, z⟩ => ?_⟩
  cases q with
  | bl b => exact ⟨b, rfl, z.val n.sim rfl⟩
  | _ => exact z.elim
theorem d_tcmp {op : CmpOp} {f : F2} {r : R2} (ho : OpR X (compareOp op) r) (br : Br2 X.K CM W r f) (ha : PE X a (tD X.K CM W da)) (hb : PE X b (tD X.K CM W db)) (hm : behindInMarks op b = false := by rfl) : PT X (.Compare a [op] [b] pos) (tDT X.K CM W (toT (c2 f da db))) := by
  refine PT.imp (pt_cmpR ho ha hb hm) fun σ H Q x => ?_
  have y := tT_of x
  exact t2_of br y
/-- a op b op' c -/
def cChain (f g : F2) (a b c : DE) : DE := fun env h => (a env h).bind fun x h1 => (b env h1).bind fun y h2 => (f x y h2).bind fun z h3 => match z with
  | .bl true => (c env h3).bind fun w h4 => g y w h4
  | .bl false => .ok (.bl false) h3
  | _ => .bad
end
end
end DL

namespace DL
noncomputable section
open PySem PySem.Spec PyProof.Rows L2
variable {X : Cx} {CM : CMap} {W : WX} {pos : Pos} {α β γ δ : Type}

/-! ### rows of data, a list or a tuple -/
def seqOf (h : List Cell) : D → Option (Bool × List D)
  | .tup ds => some (true, ds)
  | .lst ds => some (false, ds)
  | .ref n => match h[n]? with
    | some (.lst ds) => some (false, ds)
    | _ => none
  | _ => none
theorem seq_den {K : PySem.W.Frag} {ρ : Gh} {h : List Cell} {H : Hp} {v : V} {d : D} {b : Bool} {ds : List D} (S : Sim K CM ρ h H) (q : Den K CM ρ H v d) (e : seqOf h d = some (b, ds)) :
    ∃ a vs, v = .ref a ∧ (if b then SqT K H a vs else LstX K H a vs) ∧ DenL K CM ρ H vs ds := by
  cases q with
  | tup hs t => cases e; exact ⟨_, _, rfl, hs, t⟩
  | lst hs t => cases e; exact ⟨_, _, rfl, hs.lx, t⟩
  | ref hr =>
    obtain ⟨c, hc, ok⟩ := S.at' hr
    unfold seqOf at e
    simp only [hc] at e
    cases c with
    | lst ds' =>
      obtain ⟨vs, e1, t⟩ := ok
      cases e
      exact ⟨_, _, rfl, .inl (.inl e1), t⟩
    | _ => cases e
  | _ => cases e

/-! ### operators -/
theorem op_catS : OpR X (binaryOp .Add) (fun x y H Q => ∃ l b xs zs, x = .ref l ∧ y = .ref b ∧ LstX X.K H l xs ∧ LstX X.K H b zs ∧ xs.length + zs.length ≤ sizeLine ∧ ∀ p, H p = none → Q (.ref p) (upd H p (.lst (xs ++ zs)))) := by
  intro pins s σ H x y v u Q I rx ry h
  obtain ⟨l, b, xs, zs, rfl, rfl, hH, hB, hz, q⟩ := h
  cases rx
  cases ry
  obtain ⟨z, its, n, r, hl, e⟩ := hH.obj I
  obtain ⟨z2, its2, n2, r2, hl2, e2⟩ := hB.obj I
  refine concat_meets ⟨_, e, rfl⟩ ⟨_, e2, rfl⟩ noFill_list_add seq_list_add F.slot_list_add F.entry_list_add (F.args_list_add_2 _ _) (AutoSeq1.list___add___list_list_0 l its.toArray n b its2.toArray n2 (by rw [List.size_toArray, List.size_toArray]; omega)) ⟨e, e2, ?_⟩
  have ea : its.toArray ++ its2.toArray = (its ++ its2).toArray := by simp
  rw [ea]
  exact ⟨.ref _, _, I.lnew (t' := s.toks) (r.append r2) (by rw [List.length_append]; omega), rfl, q _ I.fresh⟩
def opAdd : F2 := fun x y h => match x, y with
  | .int i, .int j => .ok (.int (i + j)) h
  | .str s, .str t => if s.length + t.length ≤ sizeLine then .ok (.str (s ++ t)) h else .bad
  | _, _ => match seqOf h x, seqOf h y with
    | some (true, a), some (true, b) => if a.length + b.length ≤ sizeLine then .ok (.tup (a ++ b)) h else .bad
    | some (false, a), some (false, b) => if a.length + b.length ≤ sizeLine then .ok (.lst (a ++ b)) h else .bad
    | _, _ => .bad
def rAddS (K : PySem.W.Frag) : R2 := fun x y H Q => (rI0 fun i j => .int (i + j)) x y H Q ∨ (∃ i j, x = .str i ∧ y = .str j ∧ i.length + j.length ≤ sizeLine ∧ Q (.str (i ++ j)) H) ∨ rCatA K x y H Q ∨
  (∃ l b xs zs, x = .ref l ∧ y = .ref b ∧ LstX K H l xs ∧ LstX K H b zs ∧ xs.length + zs.length ≤ sizeLine ∧ ∀ p, H p = none → Q (.ref p) (upd H p (.lst (xs ++ zs))))
theorem op_addS : OpR X (binaryOp .Add) (rAddS X.K) := op_add.or (op_add_str.or (op_catA.or op_catS))
theorem br_add : Br2 X.K CM W (rAddS X.K) opAdd := by
  intro ρ h H σ v w x y Q S qx qy z
  unfold opAdd at z
  split at z
  · cases qx; cases qy
    exact .inl ⟨_, _, rfl, rfl, z.val S (.int _)⟩
  · cases qx; cases qy
    split at z
    · rename_i hz
      exact .inr (.inl ⟨_, _, rfl, rfl, hz, z.val S (.str _)⟩)
    · exact z.elim
  · split at z
    · rename_i e1 e2
      obtain ⟨a, vs, rfl, ha, ta⟩ := seq_den S qx e1
      obtain ⟨b, ws, rfl, hb, tb⟩ := seq_den S qy e2
      split at z
      · rename_i hz
        have hz' : vs.length + ws.length ≤ sizeLine := by rw [ta.length, tb.length]; exact hz
        refine .inr (.inr (.inl ⟨a, b, vs, ws, rfl, rfl, ha, hb, hz', fun e => ?_, fun _ e => ?_, fun _ _ p hp => z.newTup S (ta.append tb) hp⟩))
        · subst e
          cases ta
          exact z.val S (.tup hb tb)
        · subst e
          cases tb
          rw [List.append_nil] at z
          exact z.val S (.tup ha ta)
      · exact z.elim
    · rename_i e1 e2
      obtain ⟨a, vs, rfl, ha, ta⟩ := seq_den S qx e1
      obtain ⟨b, ws, rfl, hb, tb⟩ := seq_den S qy e2
      split at z
      · rename_i hz
        have hz' : vs.length + ws.length ≤ sizeLine := by rw [ta.length, tb.length]; exact hz
        exact .inr (.inr (.inr ⟨a, b, vs, ws, rfl, rfl, ha, hb, hz', fun p hp => z.newLst S (ta.append tb) hp⟩))
      · exact z.elim
    · exact z.elim
/-- ints only -/
def opI (C : Int → Int → Prop) [∀ i j, Decidable (C i j)] (g : Int → Int → D) : F2 := fun x y h => match x, y with
  | .int i, .int j => if C i j then .ok (g i j) h else .bad
  | _, _ => .bad
theorem br_I {C C' : Int → Int → Prop} [∀ i j, Decidable (C i j)] {g : Int → Int → D} {g' : Int → Int → V} (hC : ∀ i j, C i j → C' i j) (hg : ∀ ρ H i j, Den X.K CM ρ H (g' i j) (g i j)) : Br2 X.K CM W (rI C' g') (opI C g) := by
  intro ρ h H σ v w x y Q S qx qy z
  unfold opI at z
  split at z
  · cases qx; cases qy
    split at z
    · rename_i hc
      exact ⟨_, _, rfl, rfl, hC _ _ hc, z.val S (hg _ _ _ _)⟩
    · exact z.elim
  · exact z.elim
abbrev opSub : F2 := opI (fun _ _ => True) fun i j => .int (i - j)
instance (i j : Int) : Decidable (CMul i j) := Classical.propDecidable _
instance (i j : Int) : Decidable (CDiv i j) := Classical.propDecidable _
instance (i j : Int) : Decidable (CPow i j) := inferInstanceAs (Decidable (0 ≤ j ∧ j ≤ 1000000 ∧ i.natAbs < 2 ^ 64))
abbrev opFdiv : F2 := opI CDiv fun i j => .int (i / j)
theorem br_fdiv : Br2 X.K CM W (rI CDiv fun i j => .int (i / j)) opFdiv := br_I (fun _ _ h => h) fun _ _ _ _ => .int _
abbrev opMod : F2 := opI (fun _ j => 0 < j) fun i j => .int (i % j)
theorem br_mod : Br2 X.K CM W (rI (fun _ j => 0 < j) fun i j => .int (i % j)) opMod := br_I (fun _ _ h => h) fun _ _ _ _ => .int _
abbrev opPow : F2 := opI CPow fun i j => .int (i ^ j.toNat)
theorem br_pow : Br2 X.K CM W (rI CPow fun i j => .int (i ^ j.toNat)) opPow := br_I (fun _ _ h => h) fun _ _ _ _ => .int _
/-- a list, a tuple so many times -/
theorem op_repS : OpR X (binaryOp .Mult) (fun x y H Q => ∃ l k xs, x = .ref l ∧ y = .int k ∧ LstX X.K H l xs ∧ -(2 ^ 63) ≤ k ∧ k < 2 ^ 63 ∧ xs.length * k.toNat ≤ sizeLine ∧ ∀ p, H p = none → Q (.ref p) (upd H p (.lst (List.replicate k.toNat xs).flatten))) := by
  intro pins s σ H x y v u Q I rx ry h
  obtain ⟨l, k, xs, rfl, rfl, hH, h1, h2, hz, q⟩ := h
  cases rx
  obtain ⟨t, rfl⟩ := ry
  obtain ⟨z, its, n, r, hl, e⟩ := hH.obj I
  have hlen : its.toArray.size * k.toNat ≤ sizeLine := by rw [List.size_toArray, ← hl]; exact hz
  have hcap : ¬ its.toArray.size * k.toNat > (2 ^ 63 - 1) / 8 := by
    have : (sizeLine : Nat) ≤ (2 ^ 63 - 1) / 8 := by decide
    omega
  have hfit : ¬ (!Builtin.List.listFitsIndex k) = true := by
    rw [fitsIndex_both h1 h2]
    exact Bool.false_ne_true
  have hlong : ¬ Builtin.List.listTooLong (its.toArray.size * k.toNat) = true := by
    rw [notLongL hlen]
    exact Bool.false_ne_true
  have hnew : List.foldl (fun x1 x2 => x1 ++ x2) #[] (List.replicate (if its.toArray.isEmpty = true then 0 else k.toNat) its.toArray) = (List.replicate k.toNat its).flatten.toArray := by
    have f0 : ∀ m : Nat, List.foldl (fun x1 x2 => x1 ++ x2) #[] (List.replicate m its.toArray) = (List.replicate m its).flatten.toArray := fun m => by
      have := foldl_rep its m []
      rw [List.nil_append] at this
      exact this
    rw [f0]
    cases its with
    | nil => simp
    | cons a r' => rw [if_neg (by simp)]
  refine wpAny_binaryOp_repeat_ref (T := "list") (U := "int") (by decide) ⟨_, e, rfl⟩ (fun s' => typeIs_int s' k t) noFill_list_mul F.fills_int_mul F.slot_int_rmul repeat_list F.slot_int_index.lookup
    (call_meets F.slot_int_rmul (typeIs_int s k t) F.entry_int_rmul (F.args_int_rmul_2 _ _) (int___rmul___int_list k t l its.toArray n)
      ⟨e, rfl, ⟨_, e, rfl⟩, call_meets F.slot_list_mul ⟨_, e, rfl⟩ F.entry_list_mul (F.args_list_mul_2 _ _) (AutoListH.list___mul___list_int_3 l its.toArray n k t hfit hcap hlong) ⟨e, ?_⟩⟩)
  rw [hnew]
  exact ⟨.ref _, _, I.lnew (t' := s.toks) (r.rep k.toNat) (by rw [PyProof.Rows.lm_len_rep_flat, Nat.mul_comm]; exact hz), rfl, q _ I.fresh⟩
end
end DL

namespace DL
noncomputable section
open PySem PySem.Spec PyProof.Rows L2
variable {X : Cx} {CM : CMap} {W : WX} {pos : Pos}

theorem tuple_mul_self (l : Addr) (items : Array Value) (n : Nat) (dd : Option Addr) (sl : Array (Option Value)) (x : Int) (u : Tok) (c0 : (decide (x < -(2 ^ 63)) || decide (x ≥ 2 ^ 63)) = false) (c1 : (items.isEmpty || x == 1) = true) :
    Meets (Builtin.«tuple.__mul__» ⟨[.ref l, .int x u], []⟩) (fun _ R s => s.heap.get? l = some { cls := .type "tuple", dict := dd, data := .seq items n, slots := sl } ∧
      R (.ok (.ret (Value.ref l))) s) :=
  .of_wp fun prog w A R s h => by
    obtain ⟨hp, g, d, tk, os⟩ := s
    obtain ⟨hl, h⟩ := h
    have f1 := AutoSeq1.idx_int
    wp_walk using wpAny_loadPart' hl
    repeat (first
      | (refine wpAny_ite_false (decide_eq_false (by rw [c0]; exact Bool.false_ne_true)) ?_; wp_walk using wpAny_loadPart' hl)
      | (refine wpAny_ite_true (decide_eq_true c1) ?_; wp_walk using wpAny_loadPart' hl))
    exact ⟨_, rfl, h⟩
/-- t * 1, () * k: t itself -/
theorem op_repT1 : OpR X (binaryOp .Mult) (fun x y H Q => ∃ l k xs, x = .ref l ∧ y = .int k ∧ SqT X.K H l xs ∧ -(2 ^ 63) ≤ k ∧ k < 2 ^ 63 ∧ (xs = [] ∨ k = 1) ∧ Q (.ref l) H) := by
  intro pins s σ H x y v u Q I rx ry h
  obtain ⟨l, k, xs, rfl, rfl, hT, h1, h2, hne, q⟩ := h
  cases rx
  obtain ⟨t, rfl⟩ := ry
  obtain ⟨its, r, ⟨⟨cls, dd, data, sl⟩, ho, hc, n, hd⟩, hs⟩ := I.tuple hT
  simp only at hc hd
  subst hc hd
  have c0 : (decide (k < -(2 ^ 63)) || decide (k ≥ 2 ^ 63)) = false := by
    rw [decide_eq_false (by omega), decide_eq_false (by omega)] <;> rfl
  have c1 : (its.toArray.isEmpty || k == 1) = true := by
    rcases hne with e | e
    · subst e
      cases r
      rfl
    · subst e
      simp
  exact wpAny_binaryOp_repeat_ref (T := "tuple") (U := "int") (by decide) ⟨_, ho, rfl⟩ (fun s' => typeIs_int s' k t) noFill_tuple_mul F.fills_int_mul F.slot_int_rmul repeat_tuple F.slot_int_index.lookup
    (call_meets F.slot_int_rmul (typeIs_int s k t) F.entry_int_rmul (F.args_int_rmul_2 _ _) (int_rmul_tuple k t l its.toArray n dd sl)
      ⟨ho, rfl, ⟨_, ho, rfl⟩, call_meets F.slot_tuple_mul ⟨_, ho, rfl⟩ F.entry_tuple_mul (F.args_tuple_mul_2 _ _) (tuple_mul_self l its.toArray n dd sl k t c0 c1) ⟨ho, .ref l, H, I, rfl, q⟩⟩)
theorem tuple_mul_none (l : Addr) (items : Array Value) (n : Nat) (dd : Option Addr) (sl : Array (Option Value)) (x : Int) (u : Tok) (c0 : (decide (x < -(2 ^ 63)) || decide (x ≥ 2 ^ 63)) = false) (c1 : (items.isEmpty || x == 1) = false) (c2 : (decide (x ≤ 0) || items.isEmpty) = true) :
    Meets (Builtin.«tuple.__mul__» ⟨[.ref l, .int x u], []⟩) (fun _ R s => s.heap.get? l = some { cls := .type "tuple", dict := dd, data := .seq items n, slots := sl } ∧
      R (.ok (.ret (Value.ref s.heap.objs.size))) { s with heap := s.heap.push { cls := Value.type "tuple", data := Data.seq #[] }, toks := s.toks }) :=
  .of_wp fun prog w A R s h => by
    obtain ⟨hp, g, d, tk, os⟩ := s
    obtain ⟨hl, h⟩ := h
    have f1 := AutoSeq1.idx_int
    wp_walk using wpAny_loadPart' hl
    repeat (first
      | (refine wpAny_ite_false (decide_eq_false (by rw [c0]; exact Bool.false_ne_true)) ?_; wp_walk using wpAny_loadPart' hl)
      | (refine wpAny_ite_false (decide_eq_false (by rw [c1]; exact Bool.false_ne_true)) ?_; wp_walk using wpAny_loadPart' hl)
      | (refine wpAny_ite_true (decide_eq_true c2) ?_; wp_walk using wpAny_loadPart' hl))
    exact ⟨_, rfl, h⟩
/-- t * k, k below 1 -/
theorem op_repT0 : OpR X (binaryOp .Mult) (fun x y H Q => ∃ l k xs, x = .ref l ∧ y = .int k ∧ SqT X.K H l xs ∧ -(2 ^ 63) ≤ k ∧ k ≤ 0 ∧ xs ≠ [] ∧ ∀ p, H p = none → Q (.ref p) (upd H p (.tup []))) := by
  intro pins s σ H x y v u Q I rx ry h
  obtain ⟨l, k, xs, rfl, rfl, hT, h1, h2, hne, q⟩ := h
  cases rx
  obtain ⟨t, rfl⟩ := ry
  obtain ⟨its, r, ⟨⟨cls, dd, data, sl⟩, ho, hc, n, hd⟩, hs⟩ := I.tuple hT
  simp only at hc hd
  subst hc hd
  have hn : its.toArray.isEmpty = false := by
    cases r with
    | nil => exact absurd rfl hne
    | cons a b => rfl
  have c0 : (decide (k < -(2 ^ 63)) || decide (k ≥ 2 ^ 63)) = false := by
    rw [decide_eq_false (by omega), decide_eq_false (by omega)] <;> rfl
  have c1 : (its.toArray.isEmpty || k == 1) = false := by
    rw [hn, Bool.false_or]
    exact beq_eq_false_iff_ne.mpr (by omega)
  have c2 : (decide (k ≤ 0) || its.toArray.isEmpty) = true := by
    rw [decide_eq_true h2]
    rfl
  refine wpAny_binaryOp_repeat_ref (T := "tuple") (U := "int") (by decide) ⟨_, ho, rfl⟩ (fun s' => typeIs_int s' k t) noFill_tuple_mul F.fills_int_mul F.slot_int_rmul repeat_tuple F.slot_int_index.lookup
    (call_meets F.slot_int_rmul (typeIs_int s k t) F.entry_int_rmul (F.args_int_rmul_2 _ _) (int_rmul_tuple k t l its.toArray n dd sl)
      ⟨ho, rfl, ⟨_, ho, rfl⟩, call_meets F.slot_tuple_mul ⟨_, ho, rfl⟩ F.entry_tuple_mul (F.args_tuple_mul_2 _ _) (tuple_mul_none l its.toArray n dd sl k t c0 c1 c2) ⟨ho, ?_⟩⟩)
  refine ⟨.ref s.heap.objs.size, _, I.laid (t' := s.toks) (o := .tup []) (fun b ob q => Heap.get?_push_of_some _ q) (Nat.le_refl _) ?_, rfl, q _ (I.hok.fresh (Nat.le_refl _))⟩
  exact ⟨Nat.zero_le _, [], .nil, IsTup.new _ _⟩
def opMul : F2 := fun x y h => match x, y with
  | .int i, .int j => if CMul i j then .ok (.int (i * j)) h else .bad
  | x, .int k => match seqOf h x with
    | some (false, a) => if -(2 ^ 63) ≤ k ∧ k < 2 ^ 63 ∧ a.length * k.toNat ≤ sizeLine then .ok (.lst (List.replicate k.toNat a).flatten) h else .bad
    | some (true, a) => if 0 ≤ k ∧ k ≤ 1000 ∧ a.length ≤ 1000 then .ok (.tup (List.replicate k.toNat a).flatten) h else .bad
    | _ => .bad
  | _, _ => .bad
def rMulS (K : PySem.W.Frag) : R2 := fun x y H Q => (rI CMul fun i j => .int (i * j)) x y H Q ∨
  (∃ l k xs, x = .ref l ∧ y = .int k ∧ LstX K H l xs ∧ -(2 ^ 63) ≤ k ∧ k < 2 ^ 63 ∧ xs.length * k.toNat ≤ sizeLine ∧ ∀ p, H p = none → Q (.ref p) (upd H p (.lst (List.replicate k.toNat xs).flatten))) ∨
  (∃ l k xs, x = .ref l ∧ y = .int k ∧ SqT K H l xs ∧ -(2 ^ 63) ≤ k ∧ k < 2 ^ 63 ∧ (xs = [] ∨ k = 1) ∧ Q (.ref l) H) ∨ rRepT K x y H Q ∨
  (∃ l k xs, x = .ref l ∧ y = .int k ∧ SqT K H l xs ∧ -(2 ^ 63) ≤ k ∧ k ≤ 0 ∧ xs ≠ [] ∧ ∀ p, H p = none → Q (.ref p) (upd H p (.tup [])))
theorem op_mulS : OpR X (binaryOp .Mult) (rMulS X.K) := op_mul.or (op_repS.or (op_repT1.or (op_repT.or op_repT0)))
theorem DenL.rep {K : PySem.W.Frag} {ρ : Gh} {H : Hp} {vs : List V} {ds : List D} (q : DenL K CM ρ H vs ds) : ∀ k : Nat, DenL K CM ρ H (List.replicate k vs).flatten (List.replicate k ds).flatten
  | 0 => .nil
  | k + 1 => by
    rw [List.replicate_succ, List.replicate_succ, List.flatten_cons, List.flatten_cons]
    exact q.append (DenL.rep q k)
theorem br_mul : Br2 X.K CM W (rMulS X.K) opMul := by
  intro ρ h H σ v w x y Q S qx qy z
  unfold opMul at z
  split at z
  · cases qx; cases qy
    split at z
    · rename_i hc
      exact .inl ⟨_, _, rfl, rfl, hc, z.val S (.int _)⟩
    · exact z.elim
  · cases qy
    split at z
    · rename_i k _ _ a e1
      obtain ⟨a, vs, rfl, ha, ta⟩ := seq_den S qx e1
      split at z
      · rename_i hz
        exact .inr (.inl ⟨a, _, vs, rfl, rfl, ha, hz.1, hz.2.1, by rw [ta.length]; exact hz.2.2, fun p hp => z.newLst S (ta.rep _) hp⟩)
      · exact z.elim
    · rename_i k _ _ a e1
      obtain ⟨a, vs, rfl, ha, ta⟩ := seq_den S qx e1
      split at z
      · rename_i hz
        by_cases hk : vs = [] ∨ k = 1
        · refine .inr (.inr (.inl ⟨a, _, vs, rfl, rfl, ha, by omega, by omega, hk, ?_⟩))
          rcases hk with e | e
          · subst e
            cases ta
            have e2 : (List.replicate k.toNat ([] : List D)).flatten = [] := by simp
            rw [e2] at z
            exact z.val S (.tup ha .nil)
          · subst e
            have e2 : ∀ l : List D, (List.replicate (1 : Int).toNat l).flatten = l := by simp
            rw [e2] at z
            exact z.val S (.tup ha ta)
        · by_cases h0 : k ≤ 0
          · have ek : k = 0 := by omega
            subst ek
            exact .inr (.inr (.inr (.inr ⟨a, _, vs, rfl, rfl, ha, by omega, by omega, fun e => hk (.inl e), fun p hp => z.newTup S .nil hp⟩)))
          · exact .inr (.inr (.inr (.inl ⟨a, _, vs, rfl, rfl, ha, fun e => hk (.inl e), by omega, by omega, by rw [ta.length]; omega, fun p hp => z.newTup S (ta.rep _) hp⟩)))
      · exact z.elim
    · exact z.elim
  · exact z.elim

/-! ### one place -/
def opNeg : F1 := fun x h => match x with
  | .int i => .ok (.int (-i)) h
  | _ => .bad
theorem br_neg : Br1 X.K CM W (rU fun i => .int (-i)) opNeg := by
  intro ρ h H σ v x Q S q z
  unfold opNeg at z
  split at z
  · cases q
    exact ⟨_, rfl, z.val S (.int _)⟩
  · exact z.elim
theorem d_neg {a : Expr} {d : DE} (ha : PE X a (tD X.K CM W d)) : PE X (.UnaryOp .USub a pos) (tD X.K CM W (c1 opNeg d)) := d_un un_neg br_neg ha
section
variable {a b : Expr} {da db : DE} (ha : PE X a (tD X.K CM W da)) (hb : PE X b (tD X.K CM W db))
include ha hb
theorem d_add : PE X (.BinOp a .Add b pos) (tD X.K CM W (c2 opAdd da db)) := d_op op_addS br_add ha hb
theorem d_mul : PE X (.BinOp a .Mult b pos) (tD X.K CM W (c2 opMul da db)) := d_op op_mulS br_mul ha hb
theorem d_fdiv : PE X (.BinOp a .FloorDiv b pos) (tD X.K CM W (c2 opFdiv da db)) := d_op op_fdiv br_fdiv ha hb
theorem d_mod : PE X (.BinOp a .Mod b pos) (tD X.K CM W (c2 opMod da db)) := d_op op_mod br_mod ha hb
theorem d_pow : PE X (.BinOp a .Pow b pos) (tD X.K CM W (c2 opPow da db)) := d_op op_pow br_pow ha hb
end

/-! ### comparisons -/
/-- data that no dict is in, not too deep -/
def pdOf (d : D) : Option PyData := match d.toP with
  | some p => if p.plain = true ∧ p.depth ≤ 60 then some p else none
  | none => none
theorem pdOf_some {d : D} {p : PyData} (e : pdOf d = some p) : d.toP = some p ∧ p.plain = true ∧ p.depth ≤ 60 := by
  unfold pdOf at e
  split at e
  · rename_i q hq
    split at e
    · rename_i hz
      cases e
      exact ⟨hq, hz⟩
    · cases e
  · cases e
def opEq (neg : Bool) : F2 := fun x y h => match pdOf x, pdOf y with
  | some p, some q => .ok (.bl (neg != PyData.eqv p q)) h
  | _, _ => .bad
/-- by data -/
def rPd (K : PySem.W.Frag) (CM : CMap) (f : PyData → PyData → Option Bool) : R2 := fun x y H Q => ∃ ρ d e p q b, Den K CM ρ H x d ∧ Den K CM ρ H y e ∧ pdOf d = some p ∧ pdOf e = some q ∧ f p q = some b ∧ Q (.bl b) H
theorem op_eqP (hu : X.A.units + 64 < cLine) : OpR X (compareOp .Eq) (rPd X.K CM fun p q => some (PyData.eqv p q)) := by
  intro pins s σ H x y v u Q I rx ry ⟨ρ, d, e, p, q, b, h1, h2, h3, h4, h5, h6⟩
  cases h5
  obtain ⟨a1, a2, a3⟩ := pdOf_some h3
  obtain ⟨b1, b2, b3⟩ := pdOf_some h4
  obtain ⟨as, r1, _⟩ := h1.reads I d x v p a1 rx
  obtain ⟨bs, r2, _⟩ := h2.reads I e y u q b1 ry
  exact SeqAt.eq_plain r1 r2 a2 b2 (by omega) ⟨.bl _, H, I, rfl, h6⟩
theorem op_neP (hu : X.A.units + 64 < cLine) : OpR X (compareOp .NotEq) (rPd X.K CM fun p q => some (!PyData.eqv p q)) := by
  intro pins s σ H x y v u Q I rx ry ⟨ρ, d, e, p, q, b, h1, h2, h3, h4, h5, h6⟩
  cases h5
  obtain ⟨a1, a2, a3⟩ := pdOf_some h3
  obtain ⟨b1, b2, b3⟩ := pdOf_some h4
  obtain ⟨as, r1, _⟩ := h1.reads I d x v p a1 rx
  obtain ⟨bs, r2, _⟩ := h2.reads I e y u q b1 ry
  exact SeqAt.ne_plain r1 r2 a2 b2 (by omega) ⟨.bl _, H, I, rfl, h6⟩
theorem br_eq : Br2 X.K CM W (rPd X.K CM fun p q => some (PyData.eqv p q)) (opEq false) := by
  intro ρ h H σ v w x y Q S qx qy z
  unfold opEq at z
  split at z
  · rename_i p q e1 e2
    exact ⟨ρ, x, y, p, q, _, qx, qy, e1, e2, rfl, z.val S (by rw [Bool.false_bne]; exact .bl _)⟩
  · exact z.elim
theorem br_ne : Br2 X.K CM W (rPd X.K CM fun p q => some (!PyData.eqv p q)) (opEq true) := by
  intro ρ h H σ v w x y Q S qx qy z
  unfold opEq at z
  split at z
  · rename_i p q e1 e2
    exact ⟨ρ, x, y, p, q, _, qx, qy, e1, e2, rfl, z.val S (by rw [Bool.true_bne]; exact .bl _)⟩
  · exact z.elim
/-- order of data that are alike -/
def notNon : PyData → Bool
  | .none => false
  | _ => true
theorem notNon_ne {p : PyData} (h : notNon p = true) : p ≠ .none := fun e => by subst e; cases h
def opOrd (fi : Int → Int → Bool) (f : PyData → PyData → Bool) : F2 := fun x y h => match x, y with
  | .int i, .int j => .ok (.bl (fi i j)) h
  | _, _ => match pdOf x, pdOf y with
    | some p, some q => if (PySem.W.alike p q && notNon p) = true then .ok (.bl (f p q)) h else .bad
    | _, _ => .bad
def rOrd (K : PySem.W.Frag) (CM : CMap) (fi : Int → Int → Bool) (f : PyData → PyData → Bool) : R2 := fun x y H Q => (rI0 fun i j => .bl (fi i j)) x y H Q ∨
  rPd K CM (fun p q => if (PySem.W.alike p q && notNon p) = true then some (f p q) else none) x y H Q
theorem br_ord {fi : Int → Int → Bool} {f : PyData → PyData → Bool} : Br2 X.K CM W (rOrd X.K CM fi f) (opOrd fi f) := by
  intro ρ h H σ v w x y Q S qx qy z
  unfold opOrd at z
  split at z
  · cases qx; cases qy
    exact .inl ⟨_, _, rfl, rfl, z.val S (.bl _)⟩
  · split at z
    · rename_i p q e1 e2
      split at z
      · rename_i hz
        exact .inr ⟨ρ, x, y, p, q, _, qx, qy, e1, e2, if_pos hz, z.val S (.bl _)⟩
      · exact z.elim
    · exact z.elim
theorem op_ordP {op : CmpOp} {f : PyData → PyData → Bool} (hu : X.A.units + 64 < cLine)
    (rule : ∀ {s : Shared} {a b : Value} {da db : PyData} {as bs : List Addr} {Q E : Value → Shared → Prop}, Reads s.heap a da as → Reads s.heap b db bs → PySem.W.alike da db = true → da ≠ .none → X.A.units + min da.depth db.depth < cLine → Q (.bool (f da db)) s → wpAny (model X.prog X.w) X.A (compareOp op a b) Q E s) :
    OpR X (compareOp op) (rPd X.K CM (fun p q => if (PySem.W.alike p q && notNon p) = true then some (f p q) else none)) := by
  intro pins s σ H x y v u Q I rx ry ⟨ρ, d, e, p, q, b, h1, h2, h3, h4, h5, h6⟩
  obtain ⟨a1, a2, a3⟩ := pdOf_some h3
  obtain ⟨b1, b2, b3⟩ := pdOf_some h4
  obtain ⟨as, r1, _⟩ := h1.reads I d x v p a1 rx
  obtain ⟨bs, r2, _⟩ := h2.reads I e y u q b1 ry
  dsimp only at h5
  split at h5
  · rename_i hz
    cases h5
    rw [Bool.and_eq_true] at hz
    exact rule r1 r2 hz.1 (notNon_ne hz.2) (by omega) ⟨.bl _, H, I, rfl, h6⟩
  · cases h5
abbrev opLt : F2 := opOrd (fun i j => decide (i < j)) PySem.W.dataLt
abbrev opGt : F2 := opOrd (fun i j => decide (j < i)) fun p q => PySem.W.dataLt q p
abbrev opLe : F2 := opOrd (fun i j => decide (i ≤ j)) fun p q => !PySem.W.dataLt q p
abbrev opGe : F2 := opOrd (fun i j => decide (j ≤ i)) fun p q => !PySem.W.dataLt p q
theorem op_ltS (hu : X.A.units + 64 < cLine) : OpR X (compareOp .Lt) (rOrd X.K CM (fun i j => decide (i < j)) PySem.W.dataLt) := op_lt.or (op_ordP hu fun r1 r2 h hn hu hq => PySem.W.lt_data r1 r2 h hn hu hq)
theorem op_gtS (hu : X.A.units + 64 < cLine) : OpR X (compareOp .Gt) (rOrd X.K CM (fun i j => decide (j < i)) fun p q => PySem.W.dataLt q p) := op_gt.or (op_ordP (f := fun p q => PySem.W.dataLt q p) hu fun r1 r2 h hn hu hq => PySem.W.gt_data r1 r2 h hn hu hq)
theorem op_geS (hu : X.A.units + 64 < cLine) : OpR X (compareOp .GtE) (rOrd X.K CM (fun i j => decide (j ≤ i)) fun p q => !PySem.W.dataLt p q) := op_ge.or (op_ordP (f := fun p q => !PySem.W.dataLt p q) hu fun r1 r2 h hn hu hq => PySem.W.ge_data r1 r2 h hn hu hq)

/-! ### in, not in -/
/-- x in a row, in a text -/
def opIn (neg : Bool) : F2 := fun x y h => match x, y with
  | .str a, .str b => .ok (.bl (neg != !(Builtin.Str.occurrences b a 0 b.length 1).isEmpty)) h
  | _, _ => match seqOf h y with
    | some (_, ds) => match pdOf x, pdOf (.lst ds) with
      | some p, some (.list ps) => .ok (.bl (neg != ps.any fun z => PyData.eqv z p)) h
      | _, _ => .bad
    | none => .bad
/-! ### is None -/
def isNon : D → Bool
  | .non => true
  | _ => false
def cIsN (a : DE) : DE := fun env h => (a env h).bind fun x h1 => .ok (.bl (isNon x)) h1
def cNotN (a : DE) : DE := fun env h => (a env h).bind fun x h1 => .ok (.bl (!isNon x)) h1
theorem Den.isNon {K : PySem.W.Frag} {ρ : Gh} {H : Hp} {v : V} {d : D} (q : Den K CM ρ H v d) : decide (v = .non) = isNon d := by
  cases q <;> first | rfl | exact decide_eq_false (fun e => nomatch e)
section
variable {a b c : Expr} {da db dc : DE} {j : Option Nat}
/-! ### chains, and, or, not, if -/
def cAnd (a b : DE) : DE := fun env h => (a env h).bind fun x h1 => match x with
  | .bl true => b env h1
  | .bl false => .ok (.bl false) h1
  | _ => .bad
def cOr (a b : DE) : DE := fun env h => (a env h).bind fun x h1 => match x with
  | .bl true => .ok (.bl true) h1
  | .bl false => b env h1
  | _ => .bad
def cNot (a : DE) : DE := fun env h => (a env h).bind fun x h1 => match x with
  | .bl b => .ok (.bl !b) h1
  | _ => .bad
theorem d_not (ha : PE X a (tD X.K CM W da)) : PE X (.UnaryOp .Not a pos) (tD X.K CM W (cNot da)) := by
  refine PE.imp (pe_not ha) fun σ H Q ⟨ρ, env, h, S, E, x⟩ => ?_
  obtain ⟨r1, r2, r3, r4, r5, r6⟩ := tD.first ⟨S, E⟩ x
  refine ⟨r1, r2, r3, r4, r5, r6.mono fun v H1 ⟨ρ1, h1, y, n, e1, q, z⟩ => ?_⟩
  cases q with
  | bl b => exact ⟨b, rfl, z.val n.sim (.bl _)⟩
  | _ => exact z.elim
def cTAnd (a b : DT) : DT := fun env h => (a env h).bind fun x h1 => if x = true then b env h1 else .ok false h1
def cTOr (a b : DT) : DT := fun env h => (a env h).bind fun x h1 => if x = true then .ok true h1 else b env h1
def cTNot (a : DT) : DT := fun env h => (a env h).bind fun x h1 => .ok (!x) h1
variable {ta tb : DT}
theorem d_tor1 (ha : PT X a (tDT X.K CM W ta)) : PW X (.BoolOp .Or [a] pos) (tDT X.K CM W ta) := pw_or1 ha
theorem d_tor {rest : List Expr} (ha : PT X a (tDT X.K CM W ta)) (hb : PW X (.BoolOp .Or (b :: rest) pos) (tDT X.K CM W tb)) : PW X (.BoolOp .Or (a :: b :: rest) pos) (tDT X.K CM W (cTOr ta tb)) := by
  refine PW.imp (pw_or ha hb) fun σ H Q ⟨ρ, env, h, S, E, x⟩ => ?_
  obtain ⟨r1, r2, r3, r4, r5, r6⟩ := tDT.first ⟨S, E⟩ x
  refine ⟨r1, r2, r3, r4, r5, r6.mono fun v H1 ⟨ρ1, h1, n, e1, z⟩ => ?_⟩
  cases v with
  | false => exact ⟨_, _, _, n.sim, n.env, z⟩
  | true => exact z.val n.sim rfl
def cIf (t : DT) (a b : DE) : DE := fun env h => (t env h).bind fun x h1 => if x = true then a env h1 else b env h1
end
end
end DL

namespace DL
noncomputable section
open PySem PySem.Spec PyProof.Rows L2
variable {X : Cx} {CM : CMap} {W : WX} {pos : Pos}

/-! ### subscripts -/
def opIdx : F2 := fun x y h => match y with
  | .int i => match x with
    | .str z => if z.length ≤ sizeLine then (match atI z.cps.toList i with | some c => .ok (.str ⟨#[c]⟩) h | none => .bad) else .bad
    | _ => match seqOf h x with
      | some (_, ds) => match atI ds i with
        | some d => .ok d h
        | none => .bad
      | none => .bad
  | _ => .bad
theorem atI_den {K : PySem.W.Frag} {ρ : Gh} {H : Hp} {vs : List V} {ds : List D} {i : Int} {d : D} (t : DenL K CM ρ H vs ds) (e : atI ds i = some d) : ∃ v, atI vs i = some v ∧ Den K CM ρ H v d := by
  unfold atI at e ⊢
  rw [t.length]
  cases q : ixN ds.length i with
  | none => rw [q] at e; cases e
  | some j =>
    rw [q] at e
    exact t.get (i := j) e
theorem br_idx : Br2 X.K CM W (rIx X.K) opIdx := by
  intro ρ h H σ v w x y Q S qx qy z
  unfold opIdx at z
  split at z
  · cases qy
    split at z
    · cases qx
      split at z
      · rename_i hz
        split at z
        · rename_i c e
          exact .inr (.inr ⟨_, _, c, rfl, rfl, hz, e, z.val S (.str _)⟩)
        · exact z.elim
      · exact z.elim
    · split at z
      · rename_i b ds e1
        obtain ⟨a, vs, rfl, ha, ta⟩ := seq_den S qx e1
        split at z
        · rename_i d e2
          obtain ⟨u, e3, q3⟩ := atI_den ta e2
          cases b with
          | true => exact .inr (.inl ⟨a, vs, _, u, rfl, rfl, ha, e3, z.val S q3⟩)
          | false =>
            have ha' : LstX X.K H a vs := ha
            exact .inl ⟨a, vs, _, u, rfl, rfl, ha'.sql, e3, z.val S q3⟩
        · exact z.elim
      · exact z.elim
  · exact z.elim
theorem d_idx {a b : Expr} {da db : DE} (ha : PE X a (tD X.K CM W da)) (hb : PE X b (tD X.K CM W db)) (hs : PlainIx b := by exact fun _ _ => rfl) : PE X (.Subscript a b pos) (tD X.K CM W (c2 opIdx da db)) :=
  PE.imp (pe_ix ix_seq ha hb hs) fun _ _ _ x => t2_of br_idx x

/-! ### slices -/
abbrev DO := En → List Cell → R (Option Int)
def rO : Gh → Hp → Option Int → Option Int → Prop := fun _ _ a b => a = b
def tDO (K : PySem.W.Frag) (CM : CMap) (W : WX) (d : DO) : TO := fun σ H Q => ∃ ρ env h, Sim K CM ρ h H ∧ EnvOk K CM ρ H σ env ∧ okP K CM W rO ρ H σ (d env h) Q
def cNoP : DO := fun _ h => .ok none h
def cP (d : DE) : DO := fun env h => (d env h).bind fun x h1 => match x with
  | .int i => .ok (some i) h1
  | _ => .bad
theorem PO.imp {e : Option Expr} {t t' : TO} (p : PO X e t) (h : ∀ σ H Q, t' σ H Q → t σ H Q) : PO X e t' := ⟨fun pins s σ H Q I w => p.run pins s σ H Q I (h σ H Q w)⟩
theorem d_noP : PO X none (tDO X.K CM W cNoP) := PO.imp po_none fun _ _ _ ⟨_, _, _, S, _, x⟩ => x.val S rfl
theorem d_P {e : Expr} {d : DE} (h : PE X e (tD X.K CM W d)) : PO X (some e) (tDO X.K CM W (cP d)) := by
  refine PO.imp (po_some h) fun σ H Q ⟨ρ, env, h, S, E, x⟩ => ?_
  obtain ⟨r1, r2, r3, r4, r5, r6⟩ := tD.first ⟨S, E⟩ x
  refine ⟨r1, r2, r3, r4, r5, r6.mono fun v H1 ⟨ρ1, h1, y, n, e1, q, z⟩ => ?_⟩
  cases q with
  | int i => exact ⟨i, rfl, z.val n.sim rfl⟩
  | _ => exact z.elim
def cutD {α : Type} (xs : List α) (lo hi : Option Int) : List α := (xs.drop (HT.sIx xs.length 0 lo)).take (HT.sIx xs.length xs.length hi - HT.sIx xs.length 0 lo)
def opSlice (x : D) (lo hi : Option Int) (h : List Cell) : R D := match x with
  | .str z => if z.length ≤ sizeLine then .ok (.str (cutS z lo hi)) h else .bad
  | _ => match seqOf h x with
    | some (true, ds) => .ok (.tup (cutD ds lo hi)) h
    | some (false, ds) => .ok (.lst (cutD ds lo hi)) h
    | none => .bad
def cSlice (a : DE) (lo hi : DO) : DE := fun env h => (a env h).bind fun x h1 => (lo env h1).bind fun l h2 => (hi env h2).bind fun u h3 => opSlice x l u h3
theorem cut_den {K : PySem.W.Frag} {ρ : Gh} {H : Hp} {vs : List V} {ds : List D} {lo hi : Option Int} (t : DenL K CM ρ H vs ds) : DenL K CM ρ H (cutV vs lo hi) (cutD ds lo hi) := by
  unfold cutV cutD
  rw [t.length]
  exact (t.drop _).take _
theorem d_slice {e : Expr} {lo hi : Option Expr} {d : DE} {dl dh : DO} {p2 : Pos} (he : PE X e (tD X.K CM W d)) (hl : PO X lo (tDO X.K CM W dl)) (hu : PO X hi (tDO X.K CM W dh)) : PE X (.Subscript e (.Slice lo hi none p2) pos) (tD X.K CM W (cSlice d dl dh)) := by
  refine PE.imp (pe_slice (sl_tupA.or (sl_list.or sl_str)) he hl hu) fun σ H Q ⟨ρ, env, h, S, E, x⟩ => ?_
  obtain ⟨r1, r2, r3, r4, r5, r6⟩ := tD.first ⟨S, E⟩ x
  refine ⟨r1, r2, r3, r4, r5, r6.mono fun v H1 ⟨ρ1, h1, y, n, e1, q, z⟩ => ?_⟩
  refine ⟨ρ1, env, h1, n.sim, n.env, (okP.bind (Rel := rO) z).mono fun l H2 ⟨ρ2, h2, l', e2, s2, ql, z2⟩ => ?_⟩
  have n2 := n.next e2 s2
  refine ⟨ρ2, env, h2, n2.sim, n2.env, (okP.bind (Rel := rO) z2).mono fun u H3 ⟨ρ3, h3, u', e3, s3, qu, z3⟩ => ?_⟩
  cases (show l = l' from ql)
  cases (show u = u' from qu)
  have q3 := (q.ext n.sim.cel e2).ext s2.cel e3
  unfold opSlice at z3
  split at z3
  · cases q3
    split at z3
    · rename_i hz
      exact .inr (.inr ⟨_, rfl, hz, z3.val s3 (.str _)⟩)
    · exact z3.elim
  · split at z3
    · rename_i ds e4
      obtain ⟨a, vs, rfl, ha, ta⟩ := seq_den s3 q3 e4
      refine .inl ⟨a, vs, rfl, ha, fun hw => ?_, fun hw p hp => z3.newTup s3 (cut_den ta) hp⟩
      have e5 : cutD ds l u = ds := by
        unfold cutD
        rw [← ta.length, hw.1, hw.2]
        simp [ta.length]
      rw [e5] at z3
      exact z3.val s3 (.tup ha ta)
    · rename_i ds e4
      obtain ⟨a, vs, rfl, ha, ta⟩ := seq_den s3 q3 e4
      have ha' : LstX X.K H3 a vs := ha
      exact .inr (.inl ⟨a, vs, rfl, ha'.sql, fun p hp => z3.newLst s3 (cut_den ta) hp⟩)
    · exact z3.elim

/-! ### built-in functions and types -/
abbrev FB := List D → List Cell → R D
def cCall (f : FB) (as : DEs) : DE := fun env h => (as env h).bind f
def BrB (K : PySem.W.Frag) (CM : CMap) (W : WX) (r : List V → Hp → VK → Prop) (f : FB) : Prop :=
  ∀ (ρ : Gh) (h : List Cell) (H : Hp) (σ : L2.St) (vs : List V) (xs : List D) (Q : VK), Sim K CM ρ h H → DenL K CM ρ H vs xs → okP K CM W (rV K CM) ρ H σ (f xs h) Q → r vs H Q
theorem tB_of {f : FB} {das : DEs} {r : List V → Hp → VK → Prop} (br : BrB X.K CM W r f) {σ : L2.St} {H : Hp} {Q : VK} (x : tD X.K CM W (cCall f das) σ H Q) : tCB r (tDs X.K CM W das) σ H Q := by
  obtain ⟨ρ, env, h, S, E, x⟩ := x
  obtain ⟨r1, r2, r3, r4, r5, r6⟩ := tDs.first ⟨S, E⟩ x
  exact ⟨r1, r2, r3, r4, r5, r6.mono fun v H1 ⟨ρ1, h1, y, n, e1, q, z⟩ => br ρ1 h1 H1 σ v y Q n.sim q z⟩
theorem d_callB {f : FB} {id : String} {r : List V → Hp → VK → Prop} {x : Str} {p : Pos} {e : Expr} {es : List Expr} {das : DEs} (hc : CallR X (.builtin id) r) (br : BrB X.K CM W r f) (hg : Gl X x) (hm : X.mg x = none) (hv : bootBuiltins x = some (.builtin id)) (ha : PA X (e :: es) (tDs X.K CM W das))
    (hn : x ≠ "__name__" := by decide) (hdb : (x == ("__debug__" : Str)) = false := by decide) (he : starEach (e :: es) X.env = (false, eval e X.env) :: starEach es X.env := by rfl) (hpl : (backTo pos (starEach es X.env)).any (·.1) = false := by rfl) : PE X (.Call (.Name x p) (e :: es) [] pos) (tD X.K CM W (cCall f das)) :=
  PE.imp (pe_callB hc hg hm hv ha hn hdb he hpl) fun _ _ _ x => tB_of br x
theorem d_callTy {f : FB} {T : String} {r : List V → Hp → VK → Prop} {x : Str} {p : Pos} {e : Expr} {es : List Expr} {das : DEs} (hc : CallR X (.type T) r) (br : BrB X.K CM W r f) (hg : Gl X x) (hm : X.mg x = none) (hv : bootBuiltins x = some (.type T)) (ha : PA X (e :: es) (tDs X.K CM W das))
    (hn : x ≠ "__name__" := by decide) (hdb : (x == ("__debug__" : Str)) = false := by decide) (he : starEach (e :: es) X.env = (false, eval e X.env) :: starEach es X.env := by rfl) (hpl : (backTo pos (starEach es X.env)).any (·.1) = false := by rfl) : PE X (.Call (.Name x p) (e :: es) [] pos) (tD X.K CM W (cCall f das)) :=
  PE.imp (pe_callTy hc hg hm hv ha hn hdb he hpl) fun _ _ _ x => tB_of br x
theorem den1 {K : PySem.W.Frag} {ρ : Gh} {H : Hp} {vs : List V} {d : D} (t : DenL K CM ρ H vs [d]) : ∃ v, vs = [v] ∧ Den K CM ρ H v d := by
  cases t with
  | cons a b => cases b; exact ⟨_, rfl, a⟩

/-- len -/
def bLen : FB := fun xs h => match xs with
  | [.str z] => if z.length ≤ sizeLine then .ok (.int z.length) h else .bad
  | [x] => match seqOf h x with
    | some (_, ds) => .ok (.int ds.length) h
    | none => .bad
  | _ => .bad
theorem br_len : BrB X.K CM W (fun xs H Q => (∃ p ys, xs = [.ref p] ∧ (SqL X.K H p ys ∨ SqT X.K H p ys) ∧ Q (.int ys.length) H) ∨ (∃ z, xs = [.str z] ∧ z.length ≤ sizeLine ∧ Q (.int z.length) H)) bLen := by
  intro ρ h H σ vs xs Q S q z
  unfold bLen at z
  split at z
  · obtain ⟨v, rfl, q1⟩ := den1 q
    cases q1
    split at z
    · rename_i hz
      exact .inr ⟨_, rfl, hz, z.val S (.int _)⟩
    · exact z.elim
  · obtain ⟨v, rfl, q1⟩ := den1 q
    split at z
    · rename_i b ds e
      obtain ⟨a, vs, rfl, ha, ta⟩ := seq_den S q1 e
      refine .inl ⟨a, vs, rfl, ?_, by rw [ta.length]; exact z.val S (.int _)⟩
      cases b with
      | true => exact .inr ha
      | false => exact .inl (LstX.sql ha)
    · exact z.elim
  · exact z.elim
theorem cr_len : CallR X (.builtin "len") (fun xs H Q => (∃ p ys, xs = [.ref p] ∧ (SqL X.K H p ys ∨ SqT X.K H p ys) ∧ Q (.int ys.length) H) ∨ (∃ z, xs = [.str z] ∧ z.length ≤ sizeLine ∧ Q (.int z.length) H)) := call_len_seq.or call_len_str
/-- tuple -/
def bTuple : FB := fun xs h => match xs with
  | [x] => match seqOf h x with
    | some (_, ds) => .ok (.tup ds) h
    | none => .bad
  | _ => .bad
/-- list: one that stays, one that will be changed -/
def bList : FB := fun xs h => match xs with
  | [x] => match seqOf h x with
    | some (_, ds) => .ok (.lst ds) h
    | none => .bad
  | _ => .bad
theorem br_list : BrB X.K CM W (fun xs H Q => ∃ p ys, xs = [.ref p] ∧ (SqL X.K H p ys ∨ SqT X.K H p ys) ∧ ∀ l, H l = none → Q (.ref l) (upd H l (.lst ys))) bList := by
  intro ρ h H σ vs xs Q S q z
  unfold bList at z
  split at z
  · obtain ⟨v, rfl, q1⟩ := den1 q
    split at z
    · rename_i b ds e
      obtain ⟨a, vs, rfl, ha, ta⟩ := seq_den S q1 e
      refine ⟨a, vs, rfl, ?_, fun p hp => z.newLst S ta hp⟩
      cases b with
      | true => exact .inr ha
      | false => exact .inl (LstX.sql ha)
    · exact z.elim
  · exact z.elim
/-- rows of ints -/
def intsOf : List D → Option (List Int)
  | [] => some []
  | .int b :: ds => (intsOf ds).map (b :: ·)
  | _ :: _ => none
def bSum : FB := fun xs h => match xs with
  | [x] => match seqOf h x with
    | some (false, ds) => match intsOf ds with
      | some bs => .ok (.int bs.sum) h
      | none => .bad
    | _ => .bad
  | _ => .bad
end
end DL

namespace DL
noncomputable section
open PySem PySem.Spec PyProof.Rows L2
variable {X : Cx} {CM : CMap} {W : WX} {pos : Pos}

/-! ### max, min of ints -/
theorem toPs_ints : ∀ ns : List Int, toPs (ns.map D.int) = some (ns.map PyData.int)
  | [] => rfl
  | n :: ns => by
    show toPs (.int n :: ns.map D.int) = _
    unfold toPs
    rw [toPs_ints ns]
    rfl
/-! ### abs, int, str, repr -/
def bAbs : FB := fun xs h => match xs with
  | [.int i] => .ok (.int (if i < 0 then -i else i)) h
  | _ => .bad
theorem br_abs : BrB X.K CM W (fun xs H Q => ∃ i, xs = [.int i] ∧ Q (.int (if i < 0 then -i else i)) H) bAbs := by
  intro ρ h H σ vs xs Q S q z
  unfold bAbs at z
  split at z
  · obtain ⟨v, rfl, q1⟩ := den1 q
    cases q1
    exact ⟨_, rfl, z.val S (.int _)⟩
  · exact z.elim
def bInt : FB := fun xs h => match xs with
  | [.int i] => .ok (.int i) h
  | [.bl b] => .ok (.int (if b then 1 else 0)) h
  | _ => .bad
/-- repr of any data -/
def bRepr : FB := fun xs h => match xs with
  | [x] => match x.toP with
    | some p => if p.showable = true ∧ p.depth ≤ 60 ∧ p.shown.length ≤ sizeLine then .ok (.str p.shown) h else .bad
    | none => .bad
  | _ => .bad
def rRepr (K : PySem.W.Frag) (CM : CMap) : List V → Hp → VK → Prop := fun xs H Q => ∃ (ρ : Gh) (v : V) (d : D) (p : PyData), xs = [v] ∧ Den K CM ρ H v d ∧ d.toP = some p ∧ p.showable = true ∧ p.depth ≤ 60 ∧ p.shown.length ≤ sizeLine ∧ Q (.str p.shown) H
theorem cr_repr (hS : SysK X.K) (hG : X.A.guards = some []) (hu : X.A.units + 64 < cLine) : CallR X (.builtin "repr") (rRepr X.K CM) := by
  intro pins s σ H xs us Q I r h
  obtain ⟨ρ, v, d, p, rfl, hd, e, h1, h2, h3, q⟩ := h
  obtain ⟨u, rfl, rx⟩ := vals1 r
  obtain ⟨as, hr, ns⟩ := hd.reads I d v u p e rx
  cases u with
  | ref a => exact PySem.repr_of_reads' hr h1 (fun _ => ns hS) hG (by omega) (fun _ _ k => k) (fun h' u tk hk => ⟨.str _, H, I.kept hk, ⟨_, rfl⟩, q⟩) h3
  | none => cases hr; exact PySem.P.repr_of_none ⟨.str _, H, I.tok _, ⟨_, rfl⟩, q⟩
  | bool b => cases hr; exact PySem.P.repr_of_bool ⟨.str _, H, I.tok _, ⟨_, rfl⟩, q⟩
  | int i t =>
    cases hr
    exact PySem.P.repr_of_int (by simpa [PyData.showable] using h1) ⟨.str _, H, I.tok _, ⟨_, rfl⟩, q⟩
  | str x t => cases hr; exact PySem.P.repr_of_str ⟨.str _, H, I.tok _, ⟨_, rfl⟩, q⟩ h3
  | _ => cases hr
theorem br_repr : BrB X.K CM W (rRepr X.K CM) bRepr := by
  intro ρ h H σ vs xs Q S q z
  unfold bRepr at z
  split at z
  · obtain ⟨v, rfl, q1⟩ := den1 q
    split at z
    · rename_i p e
      split at z
      · rename_i hz
        exact ⟨ρ, v, _, p, rfl, q1, e, hz.1, hz.2.1, hz.2.2, z.val S (.str _)⟩
      · exact z.elim
    · exact z.elim
  · exact z.elim

/-! ### ranges made into rows -/
def cRg1 (a : DE) : En → List Cell → R (Int × Int) := fun env h => (a env h).bind fun x h1 => match x with
  | .int n => .ok (0, n) h1
  | _ => .bad
def cRg2 (a b : DE) : En → List Cell → R (Int × Int) := fun env h => (a env h).bind fun x h1 => (b env h1).bind fun y h2 => match x, y with
  | .int i, .int j => .ok (i, j) h2
  | _, _ => .bad
instance (a b : Int) : Decidable (RgOk a b) := Classical.propDecidable _
/-- a .. b - 1 -/
def rgI (a b : Int) : List Int := (List.range (b - a).toNat).map fun i => a + ((i : Nat) : Int)
def cTupRg (r : En → List Cell → R (Int × Int)) : DE := fun env h => (r env h).bind fun p h1 => if RgOk p.1 p.2 then .ok (.tup ((rgI p.1 p.2).map .int)) h1 else .bad
def cLstRg (r : En → List Cell → R (Int × Int)) : DE := fun env h => (r env h).bind fun p h1 => if RgOk p.1 p.2 then .ok (.lst ((rgI p.1 p.2).map .int)) h1 else .bad
end
end DL

namespace DL
noncomputable section
open PySem PySem.Spec PyProof.Rows L2
variable {X : Cx} {CM : CMap} {W : WX} {pos : Pos}

/-! ### statements -/
inductive SR where
  | nx (env : En) (h : List Cell) | rt (d : D) (h : List Cell) | bk (env : En) (h : List Cell) | ct (env : En) (h : List Cell) | exc (e : D) (env : En) (h : List Cell) | bad
abbrev DS := En → List Cell → SR
def sP (K : PySem.W.Frag) (CM : CMap) (W : WX) (ρ : Gh) (H : Hp) (r : SR) (Dn : Ends) : Prop := match r with
  | .nx env h => ∀ ρ' H' σ', Ext ρ H ρ' H' → Sim K CM ρ' h H' → EnvOk K CM ρ' H' σ' env → Dn.nx σ' H'
  | .rt d h => ∀ ρ' H' v, Ext ρ H ρ' H' → Sim K CM ρ' h H' → Den K CM ρ' H' v d → Dn.rt v H'
  | .bk env h => ∀ ρ' H' σ', Ext ρ H ρ' H' → Sim K CM ρ' h H' → EnvOk K CM ρ' H' σ' env → Dn.bk σ' H'
  | .ct env h => ∀ ρ' H' σ', Ext ρ H ρ' H' → Sim K CM ρ' h H' → EnvOk K CM ρ' H' σ' env → Dn.ct σ' H'
  | .exc e env h => ∀ ρ' H' σ' cls od, Ext ρ H ρ' H' → Sim K CM ρ' h H' → EnvOk K CM ρ' H' σ' env → ExcD K CM ρ' H' cls od e → W cls od σ' H'
  | .bad => False
def tS (K : PySem.W.Frag) (CM : CMap) (W : WX) (s : DS) : TS := fun Dn σ H => ∃ ρ env h, Sim K CM ρ h H ∧ EnvOk K CM ρ H σ env ∧ sP K CM W ρ H (s env h) Dn
def liftS {α : Type} (r : R α) (env : En) (k : α → List Cell → SR) : SR := match r with
  | .ok a h => k a h
  | .exc e h => .exc e env h
  | .bad => .bad
section
variable {K : PySem.W.Frag} {ρ ρ1 : Gh} {H H1 : Hp} {σ : L2.St} {env : En} {h : List Cell} {Dn Dn' : Ends}
theorem sP.from {r : SR} (x : sP K CM W ρ H r Dn) (c : Cel ρ1 H1) (e : Ext ρ H ρ1 H1) : sP K CM W ρ1 H1 r Dn := by
  cases r with
  | nx env h => exact fun ρ' H' σ' f s q => x ρ' H' σ' (e.trans f c) s q
  | rt d h => exact fun ρ' H' v f s q => x ρ' H' v (e.trans f c) s q
  | bk env h => exact fun ρ' H' σ' f s q => x ρ' H' σ' (e.trans f c) s q
  | ct env h => exact fun ρ' H' σ' f s q => x ρ' H' σ' (e.trans f c) s q
  | exc d env h => exact fun ρ' H' σ' cls od f s q z => x ρ' H' σ' cls od (e.trans f c) s q z
  | bad => exact x
theorem liftS.first {α β : Type} {Rel : Gh → Hp → β → α → Prop} {r : R α} {k : α → List Cell → SR} (n : Now K CM ρ h H σ env) (x : sP K CM W ρ H (liftS r env k) Dn) :
    okP K CM W Rel ρ H σ r (fun v H1 => ∃ ρ1 h1 y, Now K CM ρ1 h1 H1 σ env ∧ Ext ρ H ρ1 H1 ∧ Rel ρ1 H1 v y ∧ sP K CM W ρ1 H1 (k y h1) Dn) := by
  cases r with
  | ok a h1 => exact fun ρ' H' v e s q => ⟨ρ', h1, a, n.next e s, e, q, sP.from x s.cel e⟩
  | exc e h1 => exact fun ρ' H' cls od e s q => x ρ' H' σ cls od e s (n.next e s).env q
  | bad => exact x
theorem tD.firstS {d : DE} {k : D → List Cell → SR} (n : Now K CM ρ h H σ env) (x : sP K CM W ρ H (liftS (d env h) env k) Dn) :
    tD K CM W d σ H (fun v H1 => ∃ ρ1 h1 y, Now K CM ρ1 h1 H1 σ env ∧ Ext ρ H ρ1 H1 ∧ Den K CM ρ1 H1 v y ∧ sP K CM W ρ1 H1 (k y h1) Dn) :=
  ⟨ρ, env, h, n.sim, n.env, liftS.first (Rel := rV K CM) n x⟩
theorem tDs.firstS {d : DEs} {k : List D → List Cell → SR} (n : Now K CM ρ h H σ env) (x : sP K CM W ρ H (liftS (d env h) env k) Dn) :
    tDs K CM W d σ H (fun v H1 => ∃ ρ1 h1 y, Now K CM ρ1 h1 H1 σ env ∧ Ext ρ H ρ1 H1 ∧ DenL K CM ρ1 H1 v y ∧ sP K CM W ρ1 H1 (k y h1) Dn) :=
  ⟨ρ, env, h, n.sim, n.env, liftS.first (Rel := rL K CM) n x⟩
theorem tDT.firstS {d : DT} {k : Bool → List Cell → SR} (n : Now K CM ρ h H σ env) (x : sP K CM W ρ H (liftS (d env h) env k) Dn) :
    tDT K CM W d σ H (fun v H1 => ∃ ρ1 h1, Now K CM ρ1 h1 H1 σ env ∧ Ext ρ H ρ1 H1 ∧ sP K CM W ρ1 H1 (k v h1) Dn) :=
  ⟨ρ, env, h, n.sim, n.env, (liftS.first (Rel := rB) n x).mono fun v H1 ⟨ρ1, h1, y, n1, e, q, z⟩ => ⟨ρ1, h1, n1, e, by rw [show v = y from q]; exact z⟩⟩
end
/-! blocks -/
def sNil : DS := fun env h => .nx env h
def sSeq (a b : DS) : DS := fun env h => match a env h with
  | .nx env' h' => b env' h'
  | r => r
theorem ds_nil : PSs X [] (tS X.K CM W sNil) := PSs.imp pss_nil fun _ σ H ⟨ρ, env, h, S, E, x⟩ => x ρ H σ Ext.refl S E
theorem seq_of {a b : DS} {Dn : Ends} {σ : L2.St} {H : Hp} (x : tS X.K CM W (sSeq a b) Dn σ H) : tSeq (tS X.K CM W a) (tS X.K CM W b) Dn σ H := by
  obtain ⟨ρ, env, h, S, E, x⟩ := x
  refine ⟨ρ, env, h, S, E, ?_⟩
  unfold sSeq at x
  cases q : a env h with
  | nx env' h' =>
    simp only [q] at x
    exact fun ρ' H' σ' e s q => ⟨ρ', env', h', s, q, sP.from x s.cel e⟩
  | rt d h' => simp only [q] at x; exact x
  | bk d h' => simp only [q] at x; exact x
  | ct d h' => simp only [q] at x; exact x
  | exc d e h' => simp only [q] at x; exact x
  | bad => simp only [q] at x; exact x
theorem ds_cons {st : Stmt} {rest : List Stmt} {a b : DS} (h1 : PS X st (tS X.K CM W a)) (h2 : PSs X rest (tS X.K CM W b)) : PSs X (st :: rest) (tS X.K CM W (sSeq a b)) := PSs.imp (pss_cons h1 h2) fun _ _ _ x => seq_of x
theorem ds_one {st : Stmt} {a : DS} (h1 : PS X st (tS X.K CM W a)) : PSs X [st] (tS X.K CM W a) := pss_one h1
def sBreak : DS := fun env h => .bk env h
def sCont : DS := fun env h => .ct env h
/-! small statements -/
def sExpr (d : DE) : DS := fun env h => liftS (d env h) env fun _ h1 => .nx env h1
def sRet (d : DE) : DS := fun env h => liftS (d env h) env fun x h1 => .rt x h1
def sRetN : DS := fun _ h => .rt .non h
def sSet (i : Nat) (d : DE) : DS := fun env h => liftS (d env h) env fun x h1 => .nx (env.set i (some x)) h1
def sIf (t : DT) (a b : DS) : DS := fun env h => liftS (t env h) env fun x h1 => if x = true then a env h1 else b env h1
section
variable {e : Expr} {d : DE}
theorem ds_ret (he : PE X e (tD X.K CM W d)) : PS X (.Return (some e) pos) (tS X.K CM W (sRet d)) := by
  refine PS.imp (ps_ret he) fun Dn σ H ⟨ρ, env, h, S, E, x⟩ => ?_
  obtain ⟨r1, r2, r3, r4, r5, r6⟩ := tD.firstS ⟨S, E⟩ x
  exact ⟨r1, r2, r3, r4, r5, r6.mono fun v H1 ⟨ρ1, h1, y, n, e1, q, z⟩ => z ρ1 H1 v Ext.refl n.sim q⟩
theorem ds_set {i : Nat} {x : Str} {pos' : Pos} (hN : X.N.Nodup) (hi : X.N[i]? = some x) (hx : Loc X.env.scope x) (he : PE X e (tD X.K CM W d)) (hs : swapsWith e (some (.Name x pos')) pos.line X.env = pure false := by rfl)
    (hf : X.fn x = true ∨ X.env.scope.names.lookup x = some .local := by first | exact .inl rfl | exact .inr rfl | assumption) : PS X (.Assign [.Name x pos'] e pos) (tS X.K CM W (sSet i d)) := by
  refine PS.imp (ps_set hN hi hx he hs hf) fun Dn σ H ⟨ρ, env, h, S, E, x⟩ => ?_
  obtain ⟨r1, r2, r3, r4, r5, r6⟩ := tD.firstS ⟨S, E⟩ x
  exact ⟨r1, r2, r3, r4, r5, r6.mono fun v H1 ⟨ρ1, h1, y, n, e1, q, z⟩ => z ρ1 H1 _ Ext.refl n.sim (n.env.set i q)⟩
theorem ds_if {c : Expr} {a b : List Stmt} {t : DT} {sa sb : DS} (hc : PT X c (tDT X.K CM W t)) (ha : PSs X a (tS X.K CM W sa)) (hb : PSs X b (tS X.K CM W sb)) : PS X (.If c a b pos) (tS X.K CM W (sIf t sa sb)) := by
  refine PS.imp (ps_if hc ha hb) fun Dn σ H ⟨ρ, env, h, S, E, x⟩ => ?_
  obtain ⟨r1, r2, r3, r4, r5, r6⟩ := tDT.firstS ⟨S, E⟩ x
  refine ⟨r1, r2, r3, r4, r5, r6.mono fun v H1 ⟨ρ1, h1, n, e1, z⟩ => ?_⟩
  cases v with
  | true => exact ⟨_, _, _, n.sim, n.env, z⟩
  | false => exact ⟨_, _, _, n.sim, n.env, z⟩
end

/-! targets -/
abbrev DG := D → En → List Cell → Option En
/-- vs: the slots it stores -/
def TgB (K : PySem.W.Frag) (CM : CMap) (t : TG) (g : DG) (vs : List Nat) : Prop :=
  ∀ (ρ : Gh) (h : List Cell) (H : Hp) (σ : L2.St) (env env' : En) (v : V) (x : D) (Q : L2.St → Hp → Prop), Sim K CM ρ h H → EnvOk K CM ρ H σ env → Den K CM ρ H v x → g x env h = some env' →
    (∀ σ', EnvOk K CM ρ H σ' env' → L2.wipe σ' vs = L2.wipe σ vs → Q σ' H) → t v σ H Q
structure TgOk (X : Cx) (CM : CMap) (tg : Expr) (g : DG) (vs : List Nat) : Prop where
  ex : ∃ t : TG, PG X tg t ∧ TgB X.K CM t g vs
def gN (i : Nat) : DG := fun x env _ => some (env.set i (some x))
theorem wipe_set {σ : L2.St} {i : Nat} {x : Option V} : ∀ {vs : List Nat}, i ∈ vs → L2.wipe (σ.set i x) vs = L2.wipe σ vs
  | v :: vs, h => by
    show (L2.wipe (σ.set i x) vs).set v none = (L2.wipe σ vs).set v none
    by_cases hv : i ∈ vs
    · rw [wipe_set hv]
    · have e : i = v := by
        rcases List.mem_cons.mp h with e | h
        · exact e
        · exact absurd h hv
      subst e
      have go : ∀ (ws : List Nat), i ∉ ws → L2.wipe (σ.set i x) ws = (L2.wipe σ ws).set i x := by
        intro ws
        induction ws with
        | nil => intro _; rfl
        | cons w ws ih =>
          intro hn
          rw [List.mem_cons, not_or] at hn
          show (L2.wipe (σ.set i x) ws).set w none = ((L2.wipe σ ws).set w none).set i x
          rw [ih hn.2, List.set_comm _ _ hn.1]
      rw [go vs hv, List.set_set]
theorem tb_name {K : PySem.W.Frag} {i : Nat} : TgB K CM (gName i) (gN i) [i] := fun ρ h H σ env env' v x Q S E q e k => by
  cases e
  exact k _ (E.set i q) (wipe_set (List.mem_singleton.mpr rfl))
theorem tg_name {i : Nat} {x : Str} {p : Pos} (hN : X.N.Nodup) (hi : X.N[i]? = some x) (hx : Loc X.env.scope x) (hf : X.fn x = true ∨ X.env.scope.names.lookup x = some .local := by first | exact .inl rfl | exact .inr rfl | assumption) : TgOk X CM (.Name x p) (gN i) [i] :=
  ⟨_, pg_name hN hi hx hf, tb_name⟩
/-- several, of a tuple -/
def TgsB (K : PySem.W.Frag) (CM : CMap) (t : TGs) (g : List D → En → List Cell → Option En) (vs : List Nat) : Prop :=
  ∀ (ρ : Gh) (h : List Cell) (H : Hp) (σ : L2.St) (env env' : En) (ws : List V) (xs : List D) (Q : L2.St → Hp → Prop), Sim K CM ρ h H → EnvOk K CM ρ H σ env → DenL K CM ρ H ws xs → g xs env h = some env' →
    (∀ σ', EnvOk K CM ρ H σ' env' → L2.wipe σ' vs = L2.wipe σ vs → Q σ' H) → t ws σ H Q
structure TgsOk (X : Cx) (CM : CMap) (tgs : List Expr) (g : List D → En → List Cell → Option En) (vs : List Nat) : Prop where
  ex : ∃ t : TGs, PGs X tgs t ∧ TgsB X.K CM t g vs
def gsNil : List D → En → List Cell → Option En := fun xs env _ => match xs with
  | [] => some env
  | _ => none
def gsCons (g : DG) (gs : List D → En → List Cell → Option En) : List D → En → List Cell → Option En := fun xs env h => match xs with
  | x :: r => (g x env h).bind fun env1 => gs r env1 h
  | [] => none
theorem wipe_append {σ : L2.St} : ∀ (vs ws : List Nat), L2.wipe σ (vs ++ ws) = L2.wipe (L2.wipe σ ws) vs
  | [], _ => rfl
  | v :: vs, ws => by
    show (L2.wipe σ (vs ++ ws)).set v none = (L2.wipe (L2.wipe σ ws) vs).set v none
    rw [wipe_append vs ws]
theorem wipe_comm {σ : L2.St} (vs ws : List Nat) : L2.wipe (L2.wipe σ vs) ws = L2.wipe (L2.wipe σ ws) vs := by
  induction ws with
  | nil => rfl
  | cons w ws ih =>
    show (L2.wipe (L2.wipe σ vs) ws).set w none = L2.wipe ((L2.wipe σ ws).set w none) vs
    rw [ih]
    have go : ∀ (τ : L2.St) (us : List Nat), (L2.wipe τ us).set w none = L2.wipe (τ.set w none) us := by
      intro τ us
      induction us with
      | nil => rfl
      | cons u us ih2 =>
        show ((L2.wipe τ us).set u none).set w none = (L2.wipe (τ.set w none) us).set u none
        rw [← ih2]
        by_cases e : u = w
        · subst e; rfl
        · rw [List.set_comm _ _ e]
    exact go _ vs
theorem tbs_nil {K : PySem.W.Frag} : TgsB K CM gNil gsNil [] := fun ρ h H σ env env' ws xs Q S E q e k => by
  cases q with
  | nil => cases e; exact ⟨rfl, k σ E rfl⟩
  | cons _ _ => cases e
theorem tbs_cons {K : PySem.W.Frag} {t : TG} {u : TGs} {g : DG} {gs : List D → En → List Cell → Option En} {vs ws : List Nat} (ht : TgB K CM t g vs) (hu : TgsB K CM u gs ws) : TgsB K CM (gCons t u) (gsCons g gs) (ws ++ vs) := fun ρ h H σ env env' us xs Q S E q e k => by
  cases q with
  | nil => cases e
  | cons a b =>
    obtain ⟨env1, e1, e2⟩ := Option.bind_eq_some_iff.mp e
    refine ⟨_, _, rfl, ht ρ h H σ env env1 _ _ _ S E a e1 fun σ1 E1 w1 => ?_⟩
    refine hu ρ h H σ1 env1 env' _ _ _ S E1 b e2 fun σ2 E2 w2 => k σ2 E2 ?_
    rw [wipe_append, wipe_append, wipe_comm vs ws, wipe_comm vs ws, w2, wipe_comm ws vs, w1, wipe_comm vs ws]
theorem tgs_nil : TgsOk X CM [] gsNil [] := ⟨_, pgs_nil, tbs_nil⟩
theorem tgs_cons {tg : Expr} {tgs : List Expr} {g : DG} {gs : List D → En → List Cell → Option En} {vs ws : List Nat} (h1 : TgOk X CM tg g vs) (h2 : TgsOk X CM tgs gs ws)
    (hs : (assignEach (tg :: tgs) X.env).map (·.2) = assign tg X.env :: (assignEach tgs X.env).map (·.2) := by rfl) : TgsOk X CM (tg :: tgs) (gsCons g gs) (ws ++ vs) := by
  obtain ⟨t, pt, ht⟩ := h1.ex
  obtain ⟨u, pu, hu⟩ := h2.ex
  exact ⟨_, pgs_cons pt pu hs, tbs_cons ht hu⟩
def gT (n : Nat) (gs : List D → En → List Cell → Option En) : DG := fun x env h => match x with
  | .tup ds => if ds.length = n then gs ds env h else none
  | _ => none
theorem tb_tup {K : PySem.W.Frag} {t : TGs} {gs : List D → En → List Cell → Option En} {vs : List Nat} {n : Nat} (ht : TgsB K CM t gs vs) : TgB K CM (gTup K n t) (gT n gs) vs := fun ρ h H σ env env' v x Q S E q e k => by
  unfold gT at e
  split at e
  · split at e
    · rename_i hl
      cases q with
      | tup hs ta => exact ⟨_, _, rfl, hs, by rw [ta.length]; exact hl, ht ρ h H σ env env' _ _ _ S E ta e k⟩
    · cases e
  · cases e
theorem tg_tup {es : List Expr} {k : Nat} {p : Pos} {gs : List D → En → List Cell → Option En} {vs : List Nat} {n : Nat} (hc : X.calm = true) (h : TgsOk X CM es gs vs) (hn : (assignEach es X.env).length = n := by rfl) (hst : (assignEach es X.env).findIdx? (·.1) = none := by rfl) :
    TgOk X CM (.Tuple es k p) (gT n gs) vs := by
  obtain ⟨t, pt, ht⟩ := h.ex
  exact ⟨_, pg_tup hc pt hn hst, tb_tup ht⟩
def sAsg (g : DG) (d : DE) : DS := fun env h => liftS (d env h) env fun x h1 => match g x env h1 with
  | some env1 => .nx env1 h1
  | none => .bad
/-- a, b = x, y -/
def sPar (i j : Nat) (ds : DEs) : DS := fun env h => liftS (ds env h) env fun xs h1 => match xs with
  | [x, y] => .nx ((env.set i (some x)).set j (some y)) h1
  | _ => .bad
theorem ds_par {i j : Nat} {x y : Str} {a b : Expr} {ds : DEs} {px py pt : Pos} {kt k2 pt2} (hc : X.calm = true) (hN : X.N.Nodup) (hi : X.N[i]? = some x) (hj : X.N[j]? = some y) (hij : i ≠ j)
    (hx : X.env.scope.names.lookup x = some .local) (hy : X.env.scope.names.lookup y = some .local) (ha : PA X [a, b] (tDs X.K CM W ds))
    (hw : swappedStores [.Tuple [.Name x px, .Name y py] kt pt] (.Tuple [a, b] k2 pt2) X.env = pure (some [x, y]))
    (hs : swapsWithSole [.Tuple [.Name x px, .Name y py] kt pt] (.Tuple [a, b] k2 pt2) pos.line X.env = pure false := by rfl) :
    PS X (.Assign [.Tuple [.Name x px, .Name y py] kt pt] (.Tuple [a, b] k2 pt2) pos) (tS X.K CM W (sPar i j ds)) := by
  refine PS.imp (ps_par hc hN hi hj hij hx hy ha hw hs) fun Dn σ H ⟨ρ, env, h, S, E, x⟩ => ?_
  obtain ⟨r1, r2, r3, r4, r5, r6⟩ := tDs.firstS ⟨S, E⟩ x
  refine ⟨r1, r2, r3, r4, r5, r6.mono fun v H1 ⟨ρ1, h1, y, n, e1, q, z⟩ => ?_⟩
  cases q with
  | nil => exact z.elim
  | cons a1 t1 =>
    cases t1 with
    | nil => exact z.elim
    | cons a2 t2 =>
      cases t2 with
      | nil => exact ⟨_, _, rfl, z ρ1 H1 _ Ext.refl n.sim ((n.env.set i a1).set j a2)⟩
      | cons _ _ => exact z.elim
/-- a, b, c = x, y, z -/
def sPar3 (i j l : Nat) (ds : DEs) : DS := fun env h => liftS (ds env h) env fun xs h1 => match xs with
  | [x, y, z] => .nx (((env.set i (some x)).set j (some y)).set l (some z)) h1
  | _ => .bad
end
end DL

namespace DL
noncomputable section
open PySem PySem.Spec PyProof.Rows L2
variable {X : Cx} {CM : CMap} {W : WX} {pos : Pos}

/-! ### what is walked -/
/-- a cell that is to stay: where, and its items -/
abbrev GdT := Option (Nat × List D)
def Guard (g : GdT) (items : List D) (h : List Cell) : Prop := match g with
  | none => True
  | some n => h[n.1]? = some (.lst n.2)
/-- J walks the items -/
def ItOk (K : PySem.W.Frag) (CM : CMap) (J : It) (items : List D) (g : GdT) (ρ0 : Gh) (H0 : Hp) : Prop :=
  ∀ (ρ : Gh) (h : List Cell) (H : Hp), Ext0 ρ0 H0 ρ H → Sim K CM ρ h H → Guard g items h → Fz H0 H → ∀ i : Nat,
    (∀ d, items[i]? = some d → J.go i H ∧ ∀ x H', J.yld i H x H' → Ext ρ H ρ H' ∧ Sim K CM ρ h H' ∧ Den K CM ρ H' x d) ∧ (items.length ≤ i → J.stop i H)
abbrev DI := En → List Cell → R (List D × GdT)
def rI' (K : PySem.W.Frag) (CM : CMap) : Gh → Hp → It → List D × GdT → Prop := fun ρ H J p => ItOk K CM J p.1 p.2 ρ H
def tID (K : PySem.W.Frag) (CM : CMap) (W : WX) (d : DI) : TI := fun σ H Rr => ∃ ρ env h, Sim K CM ρ h H ∧ EnvOk K CM ρ H σ env ∧ okP K CM W (rI' K CM) ρ H σ (d env h) Rr
theorem PI.imp {tg e : Expr} {t t' : TI} (p : PI X tg e t) (h : ∀ σ H Q, t' σ H Q → t σ H Q) : PI X tg e t' := ⟨fun pins s σ H Q I w => p.run pins s σ H Q I (h σ H Q w)⟩
theorem pi_seq {tg l : Expr} {tl : TE} (hl : PE X l tl) : PI X tg l (fun σ H Rr => tl σ H fun x H1 => ∃ a, x = .ref a ∧ (((∃ xs, SqL X.K H1 a xs) ∧ Rr (Itl X.K a) H1) ∨ ((∃ xs, SqT X.K H1 a xs) ∧ Rr (Itt X.K a) H1))) := by
  refine ⟨fun pins s σ H R I h => ?_⟩
  refine thn (hl.run pins s σ H _ I h) fun v s1 ⟨x, H1, I1, r1, q1⟩ => ?_
  obtain ⟨a, e, q⟩ := q1
  subst e
  cases r1
  have fp : ∀ b ∈ [s1.heap.objs.size], FpOk X pins H1 b := fun b hb => by
    have e : b = s1.heap.objs.size := by simpa using hb
    subst e
    exact I1.fpOk (Nat.le_refl _) (I1.hok.fresh (Nat.le_refl _))
  rcases q with ⟨⟨xs, hq⟩, q⟩ | ⟨⟨xs, hq⟩, q⟩
  · obtain ⟨its, rv, p, hz⟩ := I1.list hq
    refine wpAny_pyIter_list p.isList ?_
    exact ⟨s1.heap.objs.size, [s1.heap.objs.size], _, _, H1, rfl, I1.kept (t' := s1.toks) fun b o e => Heap.get?_push_of_some _ e, turn_list a _, ⟨_, Heap.get?_push_size _ rfl, rfl, rfl⟩, fp, q⟩
  · obtain ⟨its, rv, p, hz⟩ := I1.tuple hq
    refine wpAny_pyIter_tuple (show s1.heap.IsTuple a its.toArray from p) ?_
    exact ⟨s1.heap.objs.size, [s1.heap.objs.size], _, _, H1, rfl, I1.kept (t' := s1.toks) fun b o e => Heap.get?_push_of_some _ e, turn_tuple a _, ⟨_, Heap.get?_push_size _ rfl, rfl, rfl⟩, fp, q⟩
/-- the row of a value that is walked; a cell must stay as it is -/
def rowIt (h : List Cell) (x : D) : Option (List D × GdT) := match x with
  | .ref n => match h[n]? with
    | some (.lst ds) => some (ds, some (n, ds))
    | _ => none
  | .tup ds => some (ds, none)
  | .lst ds => some (ds, none)
  | _ => none
def cIt (d : DE) : DI := fun env h => (d env h).bind fun x h1 => match rowIt h1 x with
  | some p => .ok p h1
  | none => .bad
theorem row_it {K : PySem.W.Frag} {ρ : Gh} {h : List Cell} {H : Hp} {v : V} {x : D} {ds : List D} {g : GdT} (S : Sim K CM ρ h H) (q : Den K CM ρ H v x) (e : rowIt h x = some (ds, g)) :
    ∃ a, v = .ref a ∧ (((∃ xs, SqL K H a xs) ∧ ItOk K CM (Itl K a) ds g ρ H) ∨ ((∃ xs, SqT K H a xs) ∧ ItOk K CM (Itt K a) ds g ρ H)) := by
  cases q with
  | @tup a vs ds' hs t =>
    cases e
    refine ⟨a, rfl, .inr ⟨⟨vs, hs⟩, fun ρ' h' H' ex S' _ _ i => ⟨fun d hd => ?_, fun hl => ?_⟩⟩⟩
    · have hs' := SqT.ext0 S.cel ex hs
      obtain ⟨v, hv, dv⟩ := (t.ext0 S.cel ex).get hd
      refine ⟨⟨vs, v, hs', hv⟩, fun x H2 ⟨e2, hx⟩ => ?_⟩
      subst e2
      have := hx vs hs'
      rw [hv] at this; cases this
      exact ⟨Ext.refl, S', dv⟩
    · exact ⟨vs, SqT.ext0 S.cel ex hs, by rw [t.length]; exact hl⟩
  | @lst a vs ds' hs t =>
    cases e
    refine ⟨a, rfl, .inl ⟨⟨vs, hs.sql⟩, fun ρ' h' H' ex S' _ _ i => ⟨fun d hd => ?_, fun hl => ?_⟩⟩⟩
    · have hs' := (FrL.ext0 ex hs).sql
      obtain ⟨v, hv, dv⟩ := (t.ext0 S.cel ex).get hd
      refine ⟨⟨vs, v, hs', hv⟩, fun x H2 ⟨e2, hx⟩ => ?_⟩
      subst e2
      have := hx vs hs'
      rw [hv] at this; cases this
      exact ⟨Ext.refl, S', dv⟩
    · exact ⟨vs, (FrL.ext0 ex hs).sql, by rw [t.length]; exact hl⟩
  | @ref a n hr =>
    obtain ⟨c, hc, ok⟩ := S.at' hr
    unfold rowIt at e
    simp only [hc] at e
    cases c with
    | lst ds' =>
      cases e
      obtain ⟨vs0, e0, _⟩ := ok
      refine ⟨a, rfl, .inl ⟨⟨vs0, .of e0⟩, fun ρ' h' H' ex S' gd _ i => ?_⟩⟩
      obtain ⟨c', hc', ok'⟩ := S'.at' (ex.get hr)
      have gd' : h'[n]? = some (.lst ds) := gd
      rw [hc'] at gd'; cases gd'
      obtain ⟨vs, e1, t⟩ := ok'
      refine ⟨fun d hd => ?_, fun hl => ⟨vs, .of e1, by rw [t.length]; exact hl⟩⟩
      obtain ⟨v, hv, dv⟩ := t.get hd
      refine ⟨⟨vs, v, .of e1, hv⟩, fun x H2 ⟨e2, hx⟩ => ?_⟩
      subst e2
      have := hx vs (.of e1)
      rw [hv] at this; cases this
      exact ⟨Ext.refl, S', dv⟩
    | _ => cases e
  | _ => cases e
theorem d_iter {tg l : Expr} {d : DE} (hl : PE X l (tD X.K CM W d)) : PI X tg l (tID X.K CM W (cIt d)) := by
  refine PI.imp (pi_seq hl) fun σ H Q ⟨ρ, env, h, S, E, x⟩ => ?_
  obtain ⟨r1, r2, r3, r4, r5, r6⟩ := (⟨ρ, env, h, S, E, (okP.bind (Rel := rV X.K CM) x).mono fun _ _ q => q⟩ : tD X.K CM W d σ H _)
  refine ⟨r1, r2, r3, r4, r5, r6.mono fun v H1 ⟨ρ1, h1, y, e1, s1, q, z⟩ => ?_⟩
  split at z
  · rename_i p e2
    obtain ⟨a, e3, h3⟩ := row_it s1 q e2
    refine ⟨a, e3, ?_⟩
    rcases h3 with ⟨h3, h4⟩ | ⟨h3, h4⟩
    · exact .inl ⟨h3, z.val s1 h4⟩
    · exact .inr ⟨h3, z.val s1 h4⟩
  · exact z.elim
/-- ranges -/
def rowRg (xs : List D) : Option (Int × Int) := match xs with
  | [.int j] => some (0, j)
  | [.int i, .int j] => some (i, j)
  | _ => none
def ItRgOk (a b : Int) : Prop := -(2 ^ 62) ≤ a ∧ a < 2 ^ 62 ∧ -(2 ^ 62) ≤ b ∧ b < 2 ^ 62
instance (a b : Int) : Decidable (ItRgOk a b) := Classical.propDecidable _
def cItRg (ds : DEs) : DI := fun env h => (ds env h).bind fun xs h1 => match rowRg xs with
  | some p => if ItRgOk p.1 p.2 then .ok ((rgI p.1 p.2).map .int, none) h1 else .bad
  | none => .bad
theorem rg_it {K : PySem.W.Frag} {ρ : Gh} {H : Hp} (a b : Int) : ItOk K CM (Itr a (b - a).toNat) ((rgI a b).map .int) none ρ H := by
  intro ρ' h' H' ex S' _ _ i
  have hl : ((rgI a b).map D.int).length = (b - a).toNat := by simp [rgI]
  refine ⟨fun d hd => ?_, fun hq => by rw [hl] at hq; exact hq⟩
  have h1 := (List.getElem?_eq_some_iff.mp hd).1
  rw [hl] at h1
  refine ⟨h1, fun x H2 ⟨e1, e2⟩ => ?_⟩
  subst e1 e2
  have h2 : d = .int (a + (i : Nat)) := by
    simp [rgI, h1] at hd
    exact hd.symm
  subst h2
  exact ⟨Ext.refl, S', .int _⟩
theorem rg_one {K : PySem.W.Frag} {ρ : Gh} {h : List Cell} {H : Hp} {σ : L2.St} {Q : It → Hp → Prop} {a b : Int} (S : Sim K CM ρ h H) (x : okP K CM W (rI' K CM) ρ H σ (if ItRgOk a b then R.ok ((rgI a b).map D.int, (none : GdT)) h else R.bad) Q) :
    (-(2 ^ 62) ≤ a ∧ a < 2 ^ 62 ∧ -(2 ^ 62) ≤ b ∧ b < 2 ^ 62) ∧ Q (Itr a (b - a).toNat) H := by
  split at x
  · rename_i hz
    exact ⟨hz, x.val S (rg_it a b)⟩
  · exact x.elim
theorem d_itRg1 {tg a : Expr} {ds : DEs} {p : Pos} (hg : Gl X "range") (hm : X.mg "range" = none) (ha : PA X [a] (tDs X.K CM W ds)) (hs : starEach [a] X.env = [(false, eval a X.env)] := by rfl) (hl : ∀ env h, (∃ d h', ds env h = .ok [d] h') ∨ (∃ e h', ds env h = .exc e h') ∨ ds env h = .bad) : PI X tg (.Call (.Name "range" p) [a] [] pos) (tID X.K CM W (cItRg ds)) := by
  refine PI.imp (pi_range1 hg hm ha hs) fun σ H Q ⟨ρ, env, h, S, E, x⟩ => ?_
  refine ⟨ρ, env, h, S, E, ?_⟩
  unfold cItRg at x
  rcases hl env h with ⟨d, h', e⟩ | ⟨d, h', e⟩ | e
  · rw [e] at x ⊢
    refine fun ρ' H' vs e1 s t => ?_
    obtain ⟨v, rfl, q⟩ := den1 t
    have x' := okP.from (K := X.K) (CM := CM) (W := W) (Rel := rI' X.K CM) (σ := σ) x s.cel e1
    cases q with
    | int n =>
      obtain ⟨hz, q⟩ := rg_one (a := 0) (b := n) s x'
      rw [Int.sub_zero] at q
      exact ⟨n, rfl, hz.2.2.1, hz.2.2.2, q⟩
    | _ => exact x'.elim
  · rw [e] at x ⊢
    exact x
  · rw [e] at x
    exact x.elim
theorem one_args (d : DE) (env : En) (h : List Cell) : (∃ x h', cCons d cNil env h = .ok [x] h') ∨ (∃ e h', cCons d cNil env h = .exc e h') ∨ cCons d cNil env h = .bad := by
  unfold cCons cNil
  cases d env h with
  | ok x h' => exact .inl ⟨x, h', rfl⟩
  | exc e h' => exact .inr (.inl ⟨e, h', rfl⟩)
  | bad => exact .inr (.inr rfl)
/-- zip of two lists, of two tuples -/
def pairUp : List D → List D → List D
  | a :: as, b :: bs => .tup [a, b] :: pairUp as bs
  | _, _ => []
def rowZip (h : List Cell) (xs : List D) : Option (List D × GdT) := match xs with
  | [.tup a, .tup b] => some (pairUp a b, none)
  | [.lst a, .lst b] => some (pairUp a b, none)
  | [.lst a, .ref n] => (match h[n]? with
    | some (.lst b) => some (pairUp a b, some (n, b))
    | _ => none)
  | [.ref n, .lst b] => (match h[n]? with
    | some (.lst a) => some (pairUp a b, some (n, a))
    | _ => none)
  | _ => none
def cItZip (ds : DEs) : DI := fun env h => (ds env h).bind fun xs h1 => match rowZip h1 xs with
  | some p => .ok p h1
  | none => .bad
theorem pair_den {K : PySem.W.Frag} {ρ : Gh} {h : List Cell} {H : Hp} {T : Addr} {x y : V} {a b : D} (S : Sim K CM ρ h H) (hT : H T = none) (qa : Den K CM ρ H x a) (qb : Den K CM ρ H y b) :
    Ext ρ H ρ (upd H T (.tup [x, y])) ∧ Sim K CM ρ h (upd H T (.tup [x, y])) ∧ Den K CM ρ (upd H T (.tup [x, y])) (.ref T) (.tup [a, b]) :=
  ⟨Ext.fresh hT, S.fresh hT, .tup (.of upd_same) (.cons (qa.ext S.cel (Ext.fresh hT)) (.cons (qb.ext S.cel (Ext.fresh hT)) .nil))⟩
/-! ### for -/
open Classical in
def forL (g : GdT) (all : List D) (tg : DG) (body : DS) : List D → DS
  | [], env, h => if Guard g all h then .nx env h else .bad
  | x :: xs, env, h => if Guard g all h then (match tg x env h with
    | some env1 => match body env1 h with
      | .nx e' h' => forL g all tg body xs e' h'
      | .ct e' h' => forL g all tg body xs e' h'
      | .bk e' h' => .nx e' h'
      | r => r
    | none => .bad) else .bad
def sFor (it : DI) (tg : DG) (body : DS) : DS := fun env h => liftS (it env h) env fun p h1 => forL p.2 p.1 tg body p.1 env h1
theorem drop_cons {α : Type} {l : List α} {i : Nat} {x : α} (h : l[i]? = some x) : l.drop i = x :: l.drop (i + 1) := by
  obtain ⟨h1, h2⟩ := List.getElem?_eq_some_iff.mp h
  rw [← h2]
  exact List.drop_eq_getElem_cons h1
theorem ds_for {tg iter : Expr} {body : List Stmt} {d : DI} {g : DG} {vs : List Nat} {sb : DS} (hp : PassesOwn (model X.prog X.w) X.A X.env X.xe) (hc : X.calm = true) (hi : PI X tg iter (tID X.K CM W d)) (hg : TgOk X CM tg g vs) (hb : PSs X body (tS X.K CM W sb))
    (hs : ∀ x, foldedSetIterable iter X.env x = pure x := by intro _; rfl) : PS X (.For tg iter body [] pos) (tS X.K CM W (sFor d g sb)) := by
  obtain ⟨t, pt, ht⟩ := hg.ex
  refine PS.imp (ps_for hp hc hi pt hb hs) fun Dn σ H ⟨ρ, env, h, S, E, x⟩ => ?_
  refine ⟨ρ, env, h, S, E, (liftS.first (Rel := rI' X.K CM) ⟨S, E⟩ x).mono fun J H1 ⟨ρ1, h1, p, n1, e1, q, z⟩ => ?_⟩
  obtain ⟨items, gd⟩ := p
  have q' : ItOk X.K CM J items gd ρ1 H1 := q
  refine ⟨fun i m σ' H' => m = items.length - i ∧ i ≤ items.length ∧ ∃ ρ' env' h', Ext ρ1 H1 ρ' H' ∧ Sim X.K CM ρ' h' H' ∧ EnvOk X.K CM ρ' H' σ' env' ∧ sP X.K CM W ρ' H' (forL gd items g sb (items.drop i) env' h') Dn,
    ⟨items.length, by simp, Nat.zero_le _, ρ1, env, h1, Ext.refl, n1.sim, n1.env, z⟩, ?_⟩
  rintro i m σ' H' ⟨hm, hi, ρ', env', h', ex, S', E', z'⟩
  cases ei : items[i]? with
  | none =>
    have hl : items.length ≤ i := List.getElem?_eq_none_iff.mp ei
    rw [List.drop_of_length_le hl] at z'
    unfold forL at z'
    split at z'
    · rename_i hgd
      exact .inl ⟨(q' ρ' h' H' ex.to0 S' hgd ex.fz i).2 hl, z' ρ' H' σ' Ext.refl S' E'⟩
    · exact z'.elim
  | some d =>
    have hlt := (List.getElem?_eq_some_iff.mp ei).1
    rw [drop_cons ei] at z'
    unfold forL at z'
    split at z'
    · rename_i hgd
      obtain ⟨go, yl⟩ := (q' ρ' h' H' ex.to0 S' hgd ex.fz i).1 d ei
      split at z'
      · rename_i env2 et
        refine .inr ⟨go, fun σ2 H2 => m - 1 = items.length - (i + 1) ∧ i + 1 ≤ items.length ∧ ∃ ρ2 env2 h2, Ext ρ1 H1 ρ2 H2 ∧ Sim X.K CM ρ2 h2 H2 ∧ EnvOk X.K CM ρ2 H2 σ2 env2 ∧ sP X.K CM W ρ2 H2 (forL gd items g sb (items.drop (i + 1)) env2 h2) Dn,
          fun σ2 H2 hN => ⟨m - 1, by omega, hN⟩, fun x H2 hy => ?_⟩
        obtain ⟨ex2, S2, dx⟩ := yl x H2 hy
        refine ht ρ' h' H2 σ' env' env2 x d _ S2 (E'.ext S'.cel ex2) dx et fun σ3 E3 _ => ?_
        refine ⟨ρ', env2, h', S2, E3, ?_⟩
        have z2 := sP.from (K := X.K) (CM := CM) (W := W) z' S2.cel ex2
        have again : ∀ {e' h2}, sP X.K CM W ρ' H2 (forL gd items g sb (items.drop (i + 1)) e' h2) Dn → ∀ ρ3 H3 σ4, Ext ρ' H2 ρ3 H3 → Sim X.K CM ρ3 h2 H3 → EnvOk X.K CM ρ3 H3 σ4 e' →
            (m - 1 = items.length - (i + 1) ∧ i + 1 ≤ items.length ∧ ∃ ρ2 env2 h2, Ext ρ1 H1 ρ2 H3 ∧ Sim X.K CM ρ2 h2 H3 ∧ EnvOk X.K CM ρ2 H3 σ4 env2 ∧ sP X.K CM W ρ2 H3 (forL gd items g sb (items.drop (i + 1)) env2 h2) Dn) :=
          fun {e' h2} z3 ρ3 H3 σ4 e4 s4 q4 => ⟨by omega, hlt, ρ3, e', h2, (ex.trans ex2 S'.cel).trans e4 S2.cel, s4, q4, sP.from z3 s4.cel e4⟩
        cases eb : sb env2 h' with
        | nx e' h2 => rw [eb] at z2; exact again z2
        | ct e' h2 => rw [eb] at z2; exact again z2
        | bk e' h2 => rw [eb] at z2; exact z2
        | rt d h2 => rw [eb] at z2; exact z2
        | exc d e' h2 => rw [eb] at z2; exact z2
        | bad => rw [eb] at z2; exact z2
      · exact z'.elim
    · exact z'.elim
end
end DL

namespace DL
noncomputable section
open PySem PySem.Spec PyProof.Rows L2
variable {X : Cx} {CM : CMap} {W : WX} {pos : Pos}

/-! ### comprehensions -/
abbrev WF : WX := fun _ _ _ _ => False
open Classical in
def compL (g : GdT) (all : List D) (tg : DG) (tt : DT) (te : DE) (env : En) : List D → List Cell → R (List D)
  | [], h => if Guard g all h then .ok [] h else .bad
  | x :: xs, h => if Guard g all h then (match tg x env h with
    | some env1 => match tt env1 h with
      | .ok true h1 => match te env1 h1 with
        | .ok d h2 => match compL g all tg tt te env xs h2 with
          | .ok ds h3 => .ok (d :: ds) h3
          | _ => .bad
        | _ => .bad
      | .ok false h1 => compL g all tg tt te env xs h1
      | _ => .bad
    | none => .bad) else .bad
def cYes : DT := fun _ h => .ok true h
def cComp (it : DI) (vs : List Nat) (tg : DG) (tt : DT) (te : DE) : DE := fun env h => (it env h).bind fun p h1 => match compL p.2 p.1 tg tt te (wipeE env vs) p.1 h1 with
  | .ok ds h2 => if ds.length ≤ sizeLine then .ok (.lst ds) h2 else .bad
  | _ => .bad
def cCompC (it : DI) (vs : List Nat) (tg : DG) (tt : DT) (te : DE) : DE := fun env h => (it env h).bind fun p h1 => match compL p.2 p.1 tg tt te (wipeE env vs) p.1 h1 with
  | .ok ds h2 => if ds.length ≤ sizeLine then .ok (.ref h2.length) (h2 ++ [.lst ds]) else .bad
  | _ => .bad
section
variable {K : PySem.W.Frag} {ρ ρ1 ρ2 : Gh} {H H1 H2 : Hp} {h : List Cell} {Dd : Addr}
theorem Ext.unhide (e : Ext (ρ.hide Dd) H (ρ1.hide Dd) H1) : Ext ρ H ρ1 H1 := by
  obtain ⟨m, e1, e2, e3⟩ := e.pre
  exact ⟨⟨m, e1, (List.cons.inj e2).2, e3⟩, e.kp, e.tb, e.fz⟩
theorem Ext.hidden (e : Ext (ρ.hide Dd) H ρ1 H1) : ∃ ρ2 : Gh, ρ1 = ρ2.hide Dd := by
  obtain ⟨m, e1, e2, e3⟩ := e.pre
  refine ⟨⟨ρ1.c, ρ.p⟩, ?_⟩
  cases ρ1
  simp [Gh.hide] at e2 ⊢
  exact e2
theorem Ext.toHide (e : Ext ρ H ρ1 H1) (hd : H Dd = none) : Ext0 ρ H (ρ1.hide Dd) H1 := by
  obtain ⟨m, e1, e2, e3⟩ := e.pre
  exact ⟨⟨m, [Dd], e1, by simp [Gh.hide, e2], e3, by simp [hd]⟩, fun b o h n ht => e.kp b o h (fun z => n (.inl z)) ht, e.tb⟩
theorem Ext.wr (e : Ext ρ H ρ1 H1) {o : HO} (hd : H Dd = none) : Ext ρ H ρ1 (upd H1 Dd o) :=
  ⟨e.pre, fun b u q n ht => by rw [upd_ne (ne_of_none q hd)]; exact e.kp b u q n ht, fun b ps q => by rw [upd_ne (ne_of_none q hd)]; exact e.tb b ps q, fun b o u q => by rw [upd_ne (ne_of_none q hd)]; exact e.fz b o u q⟩
theorem wipe_idem {σ : L2.St} (vs : List Nat) : L2.wipe (L2.wipe σ vs) vs = L2.wipe σ vs := by
  have go : ∀ (τ : L2.St) (us : List Nat), (∀ v ∈ us, τ[v]? = some none ∨ τ.length ≤ v) → L2.wipe τ us = τ := by
    intro τ us
    induction us with
    | nil => intro _; rfl
    | cons u us ih =>
      intro hu
      show (L2.wipe τ us).set u none = τ
      rw [ih fun v hv => hu v (List.mem_cons_of_mem _ hv)]
      rcases hu u List.mem_cons_self with z | z
      · obtain ⟨hl, e⟩ := List.getElem?_eq_some_iff.mp z
        have w := List.set_getElem_self hl
        rw [e] at w
        exact w
      · exact List.set_eq_of_length_le z
  refine go _ vs fun v hv => ?_
  have hw : ∀ (us : List Nat), v ∈ us → (L2.wipe σ us)[v]? = some none ∨ (L2.wipe σ us).length ≤ v := by
    intro us
    induction us with
    | nil => intro z; cases z
    | cons u us ih =>
      intro z
      show ((L2.wipe σ us).set u none)[v]? = some none ∨ ((L2.wipe σ us).set u none).length ≤ v
      rw [List.length_set]
      by_cases e : u = v
      · subst e
        by_cases hl : u < (L2.wipe σ us).length
        · exact .inl (by rw [List.getElem?_set_self hl])
        · exact .inr (Nat.le_of_not_lt hl)
      · rw [List.getElem?_set_ne e]
        rcases List.mem_cons.mp z with z | z
        · exact absurd z.symm e
        · exact ih z
  exact hw vs hv
end
/-- a comprehension's reading -/
theorem comp_read {K : PySem.W.Frag} {it : DI} {vs : List Nat} {t : TG} {g : DG} {tt : DT} {te : DE} (br : TgB K CM t g vs) {σ : L2.St} {H : Hp} {Q : VK} {f : List D → List Cell → R D}
    (hf : ∀ (ρ : Gh) (h : List Cell) (Hc : Hp) (Dd : Addr) (accV : List V) (ds : List D), Hc Dd = some (.lst accV) → Dd ∉ ρ → Sim K CM (ρ.hide Dd) h Hc → DenL K CM (ρ.hide Dd) Hc accV ds → (∃ ρ0 H0, H0 Dd = none ∧ Ext ρ0 H0 ρ Hc ∧ okP K CM W (rV K CM) ρ0 H0 σ (f ds h) Q) → Q (.ref Dd) Hc)
    (hz : ∀ ds h ρ H, okP K CM W (rV K CM) ρ H σ (f ds h) Q → ds.length ≤ sizeLine)
    (x : ∃ ρ env h, Sim K CM ρ h H ∧ EnvOk K CM ρ H σ env ∧ okP K CM W (rV K CM) ρ H σ ((it env h).bind fun p h1 => match compL p.2 p.1 g tt te (wipeE env vs) p.1 h1 with
      | .ok ds h2 => f ds h2
      | _ => .bad) Q) : tLc (tID K CM W it) t (tDT K CM WF tt) (tD K CM WF te) vs σ H Q := by
  obtain ⟨ρ, env, h, S, E, x⟩ := x
  refine ⟨ρ, env, h, S, E, (okP.bind (Rel := rI' K CM) x).mono fun J H1 ⟨ρ1, h1, p, e1, s1, q, z⟩ => fun Dd hD => ?_⟩
  obtain ⟨items, gd⟩ := p
  have q' : ItOk K CM J items gd ρ1 H1 := q
  have E1 := E.ext S.cel e1
  cases eC : compL gd items g tt te (wipeE env vs) items h1 with
  | exc e hh => rw [eC] at z; exact z.elim
  | bad => rw [eC] at z; exact z.elim
  | ok DS hF =>
    rw [eC] at z
    have z' : okP K CM W (rV K CM) ρ1 H1 σ (f DS hF) Q := z
    have hlen := hz _ _ _ _ z'
    refine ⟨fun i m Hc => m = items.length - i ∧ i ≤ items.length ∧ ∃ (ρ' : Gh) (h' : List Cell) (accV : List V) (acc ds : List D), Hc Dd = some (.lst accV) ∧ Sim K CM (ρ'.hide Dd) h' Hc ∧ EnvOk K CM (ρ'.hide Dd) Hc (L2.wipe σ vs) (wipeE env vs) ∧
        DenL K CM (ρ'.hide Dd) Hc accV acc ∧ Ext ρ1 H1 ρ' Hc ∧ compL gd items g tt te (wipeE env vs) (items.drop i) h' = .ok ds hF ∧ acc ++ ds = DS,
      ⟨items.length, by simp, Nat.zero_le _, ρ1, h1, [], [], DS, upd_same, s1.hide hD rfl, (E1.wipe vs).ext0 s1.cel (Ext0.hide hD), .nil, Ext.fresh hD, eC, rfl⟩, ?_⟩
    rintro i m Hc ⟨hm, hi, ρ', h', accV, acc, ds, eD, S', E', da, ex, eL, eA⟩
    cases ei : items[i]? with
    | none =>
      have hl : items.length ≤ i := List.getElem?_eq_none_iff.mp ei
      rw [List.drop_of_length_le hl] at eL
      unfold compL at eL
      split at eL
      · rename_i hgd
        cases eL
        rw [List.append_nil] at eA
        subst eA
        refine .inl ⟨(q' (ρ'.hide Dd) _ Hc (ex.toHide hD) S' hgd ex.fz i).2 hl, hf ρ' _ Hc Dd accV acc eD ?_ S' da ⟨ρ1, H1, hD, ex, z'⟩⟩
        intro w
        rcases Gh.mem.mp w with w | w
        · exact (S'.hid Dd List.mem_cons_self).1 w
        · obtain ⟨_, _, ep, _⟩ := ex.pre
          rw [ep] at w
          exact s1.cel.notMem hD (.inr w)
      · cases eL
    | some d =>
      have hlt := (List.getElem?_eq_some_iff.mp ei).1
      rw [drop_cons ei] at eL
      unfold compL at eL
      split at eL
      · rename_i hgd
        obtain ⟨go, yl⟩ := (q' (ρ'.hide Dd) _ Hc (ex.toHide hD) S' hgd ex.fz i).1 d ei
        split at eL
        · rename_i env2 et
          refine .inr ⟨go, fun H2 => m - 1 = items.length - (i + 1) ∧ i + 1 ≤ items.length ∧ ∃ (ρ' : Gh) (h' : List Cell) (accV : List V) (acc ds : List D), H2 Dd = some (.lst accV) ∧ Sim K CM (ρ'.hide Dd) h' H2 ∧ EnvOk K CM (ρ'.hide Dd) H2 (L2.wipe σ vs) (wipeE env vs) ∧
              DenL K CM (ρ'.hide Dd) H2 accV acc ∧ Ext ρ1 H1 ρ' H2 ∧ compL gd items g tt te (wipeE env vs) (items.drop (i + 1)) h' = .ok ds hF ∧ acc ++ ds = DS,
            fun H2 hN => ⟨m - 1, by omega, hN⟩, fun y H2 hy => ?_⟩
          obtain ⟨ex2, S2, dx⟩ := yl y H2 hy
          have E2 := E'.ext S'.cel ex2
          refine br (ρ'.hide Dd) h' H2 (L2.wipe σ vs) (wipeE env vs) env2 y d _ S2 E2 dx et fun σ3 E3 hw => ⟨hw.trans (wipe_idem vs), ?_⟩
          refine ⟨ρ'.hide Dd, env2, h', S2, E3, ?_⟩
          have kD : ∀ {ρ4 : Gh} {H4 : Hp}, Ext (ρ'.hide Dd) H2 ρ4 H4 → H4 Dd = some (.lst accV) := fun {ρ4 H4} e4 =>
            e4.keep Dd _ (ex2.keep Dd _ eD (S'.hid Dd List.mem_cons_self).1) (S'.hid Dd List.mem_cons_self).1
          cases ett : tt env2 h' with
          | exc e hh => rw [ett] at eL; cases eL
          | bad => rw [ett] at eL; cases eL
          | ok b h2 =>
            rw [ett] at eL
            refine fun ρ4 H4 b' e4 s4 q4 => ?_
            cases (show b' = b from q4)
            have n4 : Now K CM ρ4 h2 H4 σ3 env2 := (⟨S2, E3⟩ : Now K CM (ρ'.hide Dd) h' H2 σ3 env2).next e4 s4
            obtain ⟨ρ5, rfl⟩ := e4.hidden
            have exA : Ext ρ1 H1 ρ5 H4 := (ex.trans (ex2.unhide) S'.unhide.cel).trans e4.unhide S2.unhide.cel
            have da4 := (da.ext S'.cel ex2).ext S2.cel e4
            have E4 := E2.ext S2.cel e4
            cases b with
            | false =>
              rw [if_neg Bool.false_ne_true]
              exact ⟨by omega, hlt, ρ5, h2, accV, acc, ds, kD e4, s4, E4, da4, exA, eL, eA⟩
            | true =>
              rw [if_pos rfl]
              refine ⟨ρ5.hide Dd, env2, h2, s4, n4.env, ?_⟩
              cases ete : te env2 h2 with
              | exc e hh => simp only [ete] at eL; cases eL
              | bad => simp only [ete] at eL; cases eL
              | ok d2 h3 =>
                simp only [ete] at eL
                cases ecl : compL gd items g tt te (wipeE env vs) (items.drop (i + 1)) h3 with
                | exc e hh => simp only [ecl] at eL; cases eL
                | bad => simp only [ecl] at eL; cases eL
                | ok ds2 h4 =>
                  simp only [ecl] at eL
                  cases eL
                  refine fun ρ6 H6 v e6 s6 q6 => ?_
                  obtain ⟨ρ7, rfl⟩ := e6.hidden
                  have hk : H6 Dd = some (.lst accV) := e6.keep Dd _ (kD e4) (s4.hid Dd List.mem_cons_self).1
                  have mem : Dd ∈ (ρ7.hide Dd).p := List.mem_cons_self
                  have hal : accV.length = acc.length := da.length
                  have hDS : acc.length + (ds2.length + 1) ≤ sizeLine := by
                    have := congrArg List.length eA
                    simp at this
                    omega
                  refine ⟨accV, hk, by omega, by omega, hlt, ρ7, h3, accV ++ [v], acc ++ [d2], ds2, upd_same, s6.setHid mem rfl, (E4.ext s4.cel e6).ext0 s6.cel (Ext0.setHid s6.cel mem), ?_, (exA.trans e6.unhide s4.unhide.cel).wr hD, ecl, by rw [List.append_assoc]; exact eA⟩
                  exact ((da4.ext s4.cel e6).ext0 s6.cel (Ext0.setHid s6.cel mem)).append (.cons (Den.ext0 s6.cel (Ext0.setHid s6.cel mem) q6) .nil)
        · cases eL
      · cases eL
theorem notMem_snoc {ρ : Gh} {Dd a : Addr} (h : a ∉ ρ.hide Dd) : a ∉ ρ.snoc Dd := fun z => by
  rcases Gh.mem.mp z with z | z
  · rcases List.mem_append.mp z with z | z
    · exact h (.inl z)
    · exact h (.inr (by simp at z; subst z; exact List.mem_cons_self))
  · exact h (.inr (List.mem_cons_of_mem _ z))
mutual
theorem snoc_den {K : PySem.W.Frag} {ρ : Gh} {H : Hp} {Dd : Addr} : ∀ {v : V} {d : D}, Den K CM (ρ.hide Dd) H v d → Den K CM (ρ.snoc Dd) H v d
  | _, _, .non => .non
  | _, _, .bl b => .bl b
  | _, _, .int i => .int i
  | _, _, .str s => .str s
  | _, _, .tup h t => .tup h (snoc_denL t)
  | _, _, .lst h t => .lst (h.elim (fun z => .inl ⟨z.1, notMem_snoc z.2⟩) .inr) (snoc_denL t)
  | _, _, .dic h n k t => .dic h (notMem_snoc n) k (snoc_denL t)
  | _, _, .obj k h n m t => .obj k h (notMem_snoc n) m (snoc_denL t)
  | _, _, .err0 h k => .err0 h k
  | _, _, .err h k o m t => .err h k o m (snoc_denL t)
  | _, _, .xo k h m t => .xo k (h.of fun _ => notMem_snoc) m (snoc_denL t)
  | _, _, .ref h => .ref (by
      have h' : ρ.c[_]? = some _ := h
      have := (List.getElem?_eq_some_iff.mp h').1
      show (ρ.c ++ [Dd])[_]? = some _
      rw [List.getElem?_append_left this]; exact h')
theorem snoc_denL {K : PySem.W.Frag} {ρ : Gh} {H : Hp} {Dd : Addr} : ∀ {v : List V} {d : List D}, DenL K CM (ρ.hide Dd) H v d → DenL K CM (ρ.snoc Dd) H v d
  | _, _, .nil => .nil
  | _, _, .cons h t => .cons (snoc_den h) (snoc_denL t)
end
theorem comp_fin {K : PySem.W.Frag} {σ : L2.St} {Q : VK} : ∀ (ρ : Gh) (h : List Cell) (Hc : Hp) (Dd : Addr) (accV : List V) (ds : List D), Hc Dd = some (.lst accV) → Dd ∉ ρ → Sim K CM (ρ.hide Dd) h Hc → DenL K CM (ρ.hide Dd) Hc accV ds →
    (∃ ρ0 H0, H0 Dd = none ∧ Ext ρ0 H0 ρ Hc ∧ okP K CM W (rV K CM) ρ0 H0 σ (if ds.length ≤ sizeLine then R.ok (.lst ds) h else .bad) Q) → Q (.ref Dd) Hc := by
  intro ρ h Hc Dd accV ds eD nD S' da ⟨ρ0, H0, _, ex, z⟩
  split at z
  · exact z ρ Hc _ ex S'.unhide (.lst (.inl ⟨.inl eD, nD⟩) da.unhide)
  · exact z.elim
theorem d_comp {tg iter elt : Expr} {ifs : List Expr} {scope : Scope} {own : List (Str × Nat)} {it : DI} {t : TG} {g : DG} {tt : DT} {te : DE} (hc : X.calm = true) (hN : X.N.Nodup) (hi : PI X tg iter (tID X.K CM W it)) (ok : BlkOk X.N X.env.scope scope own)
    (hg : ∀ (s : Shared) (H : Hp) (C : Addr) (cl : List (Str × Addr)) (fp : List Addr), PG (X.blk s H scope (compEnvC scope cl C X.env) fp) tg t) (br : TgB X.K CM t g (own.map (·.2)))
    (ht : ∀ (s : Shared) (H : Hp) (C : Addr) (cl : List (Str × Addr)) (fp : List Addr), PTs (X.blk s H scope (compEnvC scope cl C X.env) fp) ifs (tDT X.K CM WF tt))
    (he : ∀ (s : Shared) (H : Hp) (C : Addr) (cl : List (Str × Addr)) (fp : List Addr), PE (X.blk s H scope (compEnvC scope cl C X.env) fp) elt (tD X.K CM WF te)) (hs : ∀ x, foldedSetIterable iter X.env x = pure x := by intro _; rfl) :
    PE X (.ListComp elt [⟨tg, iter, ifs, 0⟩] scope pos) (tD X.K CM W (cComp it (own.map (·.2)) g tt te)) :=
  PE.imp (pe_lc hc hN hi ok hg ht he hs) fun σ H Q x => comp_read br comp_fin (fun ds h ρ H z => by
    split at z
    · assumption
    · exact z.elim) x
end
end DL

namespace DL
noncomputable section
open PySem PySem.Spec PyProof.Rows L2
variable {X : Cx} {CM : CMap} {W : WX} {pos : Pos}

/-! ### what is left over is let go -/
theorem lowK_L {n : Nat} : ∀ {kvs : List (Key × D)}, lowK n kvs = true → lowL n (kvs.map (·.2)) = true
  | [], _ => rfl
  | (k, d) :: r, q => by
    obtain ⟨a, b⟩ := Bool.and_eq_true_iff.mp (show (low n d && lowK n r) = true from q)
    exact Bool.and_eq_true_iff.mpr ⟨a, lowK_L b⟩
theorem lowF_L {n : Nat} : ∀ {kvs : List (Str × D)}, lowF n kvs = true → lowL n (kvs.map (·.2)) = true
  | [], _ => rfl
  | (k, d) :: r, q => by
    obtain ⟨a, b⟩ := Bool.and_eq_true_iff.mp (show (low n d && lowF n r) = true from q)
    exact Bool.and_eq_true_iff.mpr ⟨a, lowF_L b⟩
def mapO {α β : Type} (g : α → Option β) : List α → Option (List β)
  | [] => some []
  | d :: ds => match g d with
    | some e => (match mapO g ds with
      | some es => some (e :: es)
      | none => none)
    | none => none
theorem mapO_len {α β : Type} {g : α → Option β} : ∀ {xs : List α} {ys : List β}, mapO g xs = some ys → ys.length = xs.length
  | [], ys, e => by cases e; rfl
  | x :: xs, ys, e => by
    unfold mapO at e
    split at e
    · split at e
      · rename_i h2
        cases e
        exact congrArg (· + 1) (mapO_len h2)
      · cases e
    · cases e
/-- the cells from n on are no cells any more -/
def frz (n : Nat) (h : List Cell) : Nat → D → Option D
  | 0, d => if low n d = true then some d else none
  | f + 1, d => if low n d = true then some d else match d with
    | .tup ds => (mapO (frz n h f) ds).map .tup
    | .lst ds => (mapO (frz n h f) ds).map .lst
    | .dic kvs => (mapO (frz n h f) (kvs.map (·.2))).map fun ds => .dic ((kvs.map (·.1)).zip ds)
    | .obj c fs => (mapO (frz n h f) (fs.map (·.2))).map fun ds => .obj c ((fs.map (·.1)).zip ds)
    | .ref k => (match h[k]? with
      | some (.lst ds) => (mapO (frz n h f) ds).map .lst
      | some (.dic kvs) => (mapO (frz n h f) (kvs.map (·.2))).map fun ds => .dic ((kvs.map (·.1)).zip ds)
      | some (.obj c fs) => (mapO (frz n h f) (fs.map (·.2))).map fun ds => .obj c ((fs.map (·.1)).zip ds)
      | _ => none)
    | _ => none
/-- a cell that stays -/
def frzC (n : Nat) (h : List Cell) : Cell → Option Cell
  | .lst ds => (mapO (frz n h 40) ds).map .lst
  | .dic kvs => (mapO (frz n h 40) (kvs.map (·.2))).map fun ds => .dic ((kvs.map (·.1)).zip ds)
  | .obj c fs => (mapO (frz n h 40) (fs.map (·.2))).map fun ds => .obj c ((fs.map (·.1)).zip ds)
  | .dkl kvs => (mapO (frz n h 40) (kvs.map (·.2))).map fun ds => .dkl ((kvs.map (·.1)).zip ds)
  | .dt kvs => (mapO (frz n h 40) (kvs.map (·.2))).map fun ds => .dt ((kvs.map (·.1)).zip ds)
  | .dtl kvs => (mapO (frz n h 40) (kvs.map (·.2))).map fun ds => .dtl ((kvs.map (·.1)).zip ds)
/-- the first n cells stay -/
def cut (n : Nat) (h : List Cell) (d : D) : Option (D × List Cell) := match frz n h 40 d with
  | some e => (match mapO (frzC n h) (h.take n) with
    | some cs => if n ≤ h.length then some (e, cs) else none
    | none => none)
  | none => none
def trim (n : Nat) : R D → R D
  | .ok d h => (match cut n h d with
    | some (e, cs) => .ok e cs
    | none => .bad)
  | .exc d h => (match cut n h d with
    | some (e, cs) => .exc e cs
    | none => .bad)
  | .bad => .bad
structure Cut (ρ ρ' : Gh) (n : Nat) : Prop where
  c : ρ.c = ρ'.c.take n
  p : ρ.p = ρ'.p
section
variable {K : PySem.W.Frag} {ρ ρ' : Gh} {h : List Cell} {H : Hp} {n : Nat}
theorem Cut.out (k : Cut ρ ρ' n) {a : Addr} (q : a ∉ ρ') : a ∉ ρ := fun z => by
  rcases Gh.mem.mp z with z | z
  · rw [k.c] at z
    exact q (.inl (List.mem_of_mem_take z))
  · rw [k.p] at z
    exact q (.inr z)
theorem Cut.outRef (k : Cut ρ ρ' n) (S : Sim K CM ρ' h H) {i : Nat} {a : Addr} (e : ρ'.c[i]? = some a) (hi : n ≤ i) : a ∉ ρ := fun z => by
  rcases Gh.mem.mp z with z | z
  · rw [k.c] at z
    obtain ⟨j, hj, e2⟩ := List.getElem_of_mem z
    have hj' : j < n ∧ j < ρ'.c.length := by
      rw [List.length_take] at hj
      omega
    rw [List.getElem_take] at e2
    obtain ⟨h1, f1⟩ := List.getElem?_eq_some_iff.mp e
    have := (List.getElem_inj S.nd).mp (f1.trans e2.symm)
    omega
  · rw [k.p] at z
    exact (S.hid a z).1 (List.mem_of_getElem? e)
mutual
theorem den_low (k : Cut ρ ρ' n) : ∀ {v : V} {d : D}, Den K CM ρ' H v d → low n d = true → Den K CM ρ H v d
  | _, _, .non, _ => .non
  | _, _, .bl b, _ => .bl b
  | _, _, .int i, _ => .int i
  | _, _, .str s, _ => .str s
  | _, _, .tup h t, q => .tup h (denL_low k t q)
  | _, _, .lst h t, q => .lst (h.elim (fun z => .inl ⟨z.1, k.out z.2⟩) .inr) (denL_low k t q)
  | _, _, .dic h o m t, q => .dic h (k.out o) m (denL_low k t (lowK_L q))
  | _, _, .obj g h o m t, q => .obj g h (k.out o) m (denL_low k t (lowF_L q))
  | _, _, .err0 _ _, q => by cases q
  | _, _, .err _ _ _ _ _, q => by cases q
  | _, _, .xo g h m t, q => .xo g (h.of fun _ => k.out) m (denL_low k t (lowF_L q))
  | _, _, .ref h, q => .ref (by
    rw [k.c, List.getElem?_take_of_lt (of_decide_eq_true q)]
    exact h)
theorem denL_low (k : Cut ρ ρ' n) : ∀ {vs : List V} {ds : List D}, DenL K CM ρ' H vs ds → lowL n ds = true → DenL K CM ρ H vs ds
  | _, _, .nil, _ => .nil
  | _, _, .cons a t, q => .cons (den_low k a (Bool.and_eq_true_iff.mp q).1) (denL_low k t (Bool.and_eq_true_iff.mp q).2)
end
theorem denL_map {g : D → Option D} (hg : ∀ {v : V} {d e : D}, Den K CM ρ' H v d → g d = some e → Den K CM ρ H v e) : ∀ {vs : List V} {ds es : List D}, DenL K CM ρ' H vs ds → mapO g ds = some es → DenL K CM ρ H vs es
  | _, _, _, .nil, e => by cases e; exact .nil
  | _, _, _, .cons a t, e => by
    unfold mapO at e
    split at e
    · rename_i h1
      split at e
      · rename_i h2
        cases e
        exact .cons (hg a h1) (denL_map hg t h2)
      · cases e
    · cases e
theorem zip_fst {α β : Type} : ∀ {ks : List α} {ds : List β}, ds.length = ks.length → (ks.zip ds).map (·.1) = ks
  | [], _, _ => rfl
  | k :: ks, [], e => by cases e
  | k :: ks, d :: ds, e => congrArg (k :: ·) (zip_fst (Nat.succ.inj e))
theorem zip_snd {α β : Type} : ∀ {ks : List α} {ds : List β}, ds.length = ks.length → (ks.zip ds).map (·.2) = ds
  | [], [], _ => rfl
  | [], _ :: _, e => by cases e
  | k :: ks, [], e => by cases e
  | k :: ks, d :: ds, e => congrArg (d :: ·) (zip_snd (Nat.succ.inj e))
theorem den_frz (k : Cut ρ ρ' n) (S : Sim K CM ρ' h H) : ∀ (f : Nat) {v : V} {d e : D}, Den K CM ρ' H v d → frz n h f d = some e → Den K CM ρ H v e := by
  intro f
  induction f with
  | zero =>
    intro v d e q z
    unfold frz at z
    split at z
    · rename_i hl
      cases z
      exact den_low k q hl
    · cases z
  | succ f ih =>
    intro v d e q z
    unfold frz at z
    split at z
    · rename_i hl
      cases z
      exact den_low k q hl
    rename_i hl
    cases q with
    | non => cases z
    | bl b => cases z
    | int i => cases z
    | str s => cases z
    | err0 _ _ => cases z
    | err _ _ _ _ _ => cases z
    | xo _ _ _ _ => cases z
    | tup h1 t =>
      obtain ⟨es, e1, e2⟩ := Option.map_eq_some_iff.mp z
      subst e2
      exact .tup h1 (denL_map (fun q z => ih q z) t e1)
    | lst h1 t =>
      obtain ⟨es, e1, e2⟩ := Option.map_eq_some_iff.mp z
      subst e2
      exact .lst (h1.elim (fun z => .inl ⟨z.1, k.out z.2⟩) .inr) (denL_map (fun q z => ih q z) t e1)
    | dic h1 o m t =>
      obtain ⟨es, e1, e2⟩ := Option.map_eq_some_iff.mp z
      subst e2
      have hl : es.length = _ := mapO_len e1
      rw [List.length_map] at hl
      refine .dic h1 (k.out o) ?_ ?_
      · rw [zip_fst (by rw [List.length_map]; exact hl)]; exact m
      · rw [zip_snd (by rw [List.length_map]; exact hl)]; exact denL_map (fun q z => ih q z) t e1
    | obj g h1 o m t =>
      obtain ⟨es, e1, e2⟩ := Option.map_eq_some_iff.mp z
      subst e2
      have hl : es.length = _ := mapO_len e1
      rw [List.length_map] at hl
      refine .obj g h1 (k.out o) ?_ ?_
      · rw [zip_fst (by rw [List.length_map]; exact hl)]; exact m
      · rw [zip_snd (by rw [List.length_map]; exact hl)]; exact denL_map (fun q z => ih q z) t e1
    | ref h1 =>
      rename_i a i
      have hi : n ≤ i := by
        rcases Nat.lt_or_ge i n with q | q
        · exact absurd (decide_eq_true q) hl
        · exact q
      have ho := k.outRef S h1 hi
      obtain ⟨c, hc, ok⟩ := S.at' h1
      cases c with
      | lst ds =>
        simp only [hc] at z
        obtain ⟨es, e1, e2⟩ := Option.map_eq_some_iff.mp z
        subst e2
        obtain ⟨vs, a1, t⟩ := ok
        exact .lst (.inl ⟨.inl a1, ho⟩) (denL_map (fun q z => ih q z) t e1)
      | dic kvs =>
        simp only [hc] at z
        obtain ⟨es, e1, e2⟩ := Option.map_eq_some_iff.mp z
        subst e2
        obtain ⟨vs, a1, m, t⟩ := ok
        have hl : es.length = _ := mapO_len e1
        rw [List.length_map] at hl
        refine .dic a1 ho ?_ ?_
        · rw [zip_fst (by rw [List.length_map]; exact hl)]; exact m
        · rw [zip_snd (by rw [List.length_map]; exact hl)]; exact denL_map (fun q z => ih q z) t e1
      | obj c fs =>
        simp only [hc] at z
        obtain ⟨es, e1, e2⟩ := Option.map_eq_some_iff.mp z
        subst e2
        obtain ⟨C, dx, vs, g, a1, m, t⟩ := ok
        have hl : es.length = _ := mapO_len e1
        rw [List.length_map] at hl
        refine .obj g a1 ho ?_ ?_
        · rw [zip_fst (by rw [List.length_map]; exact hl)]; exact m
        · rw [zip_snd (by rw [List.length_map]; exact hl)]; exact denL_map (fun q z => ih q z) t e1
      | dkl kvs => simp only [hc] at z; cases z
      | dt kvs => simp only [hc] at z; cases z
      | dtl kvs => simp only [hc] at z; cases z
theorem cell_frz (k : Cut ρ ρ' n) (S : Sim K CM ρ' h H) {a : Addr} {c e : Cell} (ok : CellOk K CM ρ' H a c) (z : frzC n h c = some e) : CellOk K CM ρ H a e := by
  unfold frzC at z
  cases c with
  | lst ds =>
    obtain ⟨es, e1, e2⟩ := Option.map_eq_some_iff.mp z
    subst e2
    obtain ⟨vs, a1, t⟩ := ok
    exact ⟨vs, a1, denL_map (fun q z => den_frz k S 40 q z) t e1⟩
  | dic kvs =>
    obtain ⟨es, e1, e2⟩ := Option.map_eq_some_iff.mp z
    subst e2
    obtain ⟨vs, a1, m, t⟩ := ok
    have hl : es.length = _ := mapO_len e1
    rw [List.length_map] at hl
    refine ⟨vs, a1, ?_, ?_⟩
    · rw [zip_fst (by rw [List.length_map]; exact hl)]; exact m
    · rw [zip_snd (by rw [List.length_map]; exact hl)]; exact denL_map (fun q z => den_frz k S 40 q z) t e1
  | obj c fs =>
    obtain ⟨es, e1, e2⟩ := Option.map_eq_some_iff.mp z
    subst e2
    obtain ⟨C, dx, vs, g, a1, m, t⟩ := ok
    have hl : es.length = _ := mapO_len e1
    rw [List.length_map] at hl
    refine ⟨C, dx, vs, g, a1, ?_, ?_⟩
    · rw [zip_fst (by rw [List.length_map]; exact hl)]; exact m
    · rw [zip_snd (by rw [List.length_map]; exact hl)]; exact denL_map (fun q z => den_frz k S 40 q z) t e1
  | dkl kvs =>
    obtain ⟨es, e1, e2⟩ := Option.map_eq_some_iff.mp z
    subst e2
    obtain ⟨o, vs, a1, m, t⟩ := ok
    have hl : es.length = _ := mapO_len e1
    rw [List.length_map] at hl
    refine ⟨o, vs, a1, ?_, ?_⟩
    · rw [zip_fst (by rw [List.length_map]; exact hl)]; exact m
    · rw [zip_snd (by rw [List.length_map]; exact hl)]; exact denL_map (fun q z => den_frz k S 40 q z) t e1
  | dt kvs =>
    obtain ⟨es, e1, e2⟩ := Option.map_eq_some_iff.mp z
    subst e2
    obtain ⟨vs, a1, m, t⟩ := ok
    have hl : es.length = _ := mapO_len e1
    rw [List.length_map] at hl
    refine ⟨vs, a1, ⟨?_, m.2⟩, ?_⟩
    · rw [zip_fst (by rw [List.length_map]; exact hl)]; exact m.1
    · rw [zip_snd (by rw [List.length_map]; exact hl)]; exact denL_map (fun q z => den_frz k S 40 q z) t e1
  | dtl kvs =>
    obtain ⟨es, e1, e2⟩ := Option.map_eq_some_iff.mp z
    subst e2
    obtain ⟨o, vs, a1, m, t⟩ := ok
    have hl : es.length = _ := mapO_len e1
    rw [List.length_map] at hl
    refine ⟨o, vs, a1, ⟨?_, m.2⟩, ?_⟩
    · rw [zip_fst (by rw [List.length_map]; exact hl)]; exact m.1
    · rw [zip_snd (by rw [List.length_map]; exact hl)]; exact denL_map (fun q z => den_frz k S 40 q z) t e1
theorem mapO_get {α β : Type} {g : α → Option β} : ∀ {xs : List α} {ys : List β} {i : Nat} {y : β}, mapO g xs = some ys → ys[i]? = some y → ∃ x, xs[i]? = some x ∧ g x = some y
  | [], ys, i, y, e, q => by cases e; simp at q
  | x :: xs, ys, i, y, e, q => by
    unfold mapO at e
    split at e
    · rename_i h1
      split at e
      · rename_i h2
        cases e
        cases i with
        | zero => simp at q; subst q; exact ⟨x, rfl, h1⟩
        | succ i =>
          obtain ⟨x', a, b⟩ := mapO_get h2 (by simpa using q)
          exact ⟨x', by simpa using a, b⟩
      · cases e
    · cases e
theorem Sim.cut (k : Cut ρ ρ' n) (S : Sim K CM ρ' h H) {cs : List Cell} (hn : n ≤ h.length) (e : mapO (frzC n h) (h.take n) = some cs) : Sim K CM ρ cs H := by
  have hl := mapO_len e
  have hl2 : ρ'.c.length = h.length := S.len
  refine ⟨?_, ?_, fun a ha => ?_, fun i a c e1 e2 => ?_, S.tab.flat fun _ => k.out⟩
  · rw [hl, k.c, List.length_take, List.length_take, hl2]
  · rw [k.c]; exact S.nd.sublist (List.take_sublist _ _)
  · rw [k.p] at ha
    obtain ⟨h1, h2⟩ := S.hid a ha
    exact ⟨fun z => h1 (by rw [k.c] at z; exact List.mem_of_mem_take z), h2⟩
  · obtain ⟨c0, a1, a2⟩ := mapO_get e e2
    have hi : i < n := by
      have := (List.getElem?_eq_some_iff.mp a1).1
      rw [List.length_take] at this
      omega
    rw [List.getElem?_take_of_lt hi] at a1
    rw [k.c, List.getElem?_take_of_lt hi] at e1
    exact cell_frz k S (S.cell i a c0 e1 a1) a2
theorem Ext.cut {ρ ρ' : Gh} {H H' : Hp} (e : Ext ρ H ρ' H') : Ext ρ H ρ H' ∧ Cut ρ ρ' ρ.c.length := by
  obtain ⟨⟨m, e1, e2, e3⟩, e4, e5, e6⟩ := e
  exact ⟨⟨⟨[], by simp, rfl, by simp⟩, e4, e5, e6⟩, by rw [e1]; simp, e2.symm⟩
theorem cut_some {n : Nat} {h cs : List Cell} {d e : D} (z : cut n h d = some (e, cs)) : frz n h 40 d = some e ∧ mapO (frzC n h) (h.take n) = some cs ∧ n ≤ h.length := by
  unfold DL.cut at z
  split at z
  · rename_i z1
    split at z
    · rename_i z2
      split at z
      · rename_i z3
        cases z
        exact ⟨z1, z2, z3⟩
      · cases z
    · cases z
  · cases z
theorem okP.trim {ρ : Gh} {σ : L2.St} {r : R D} {Q : V → Hp → Prop} (S : Sim K CM ρ h H) (x : okP K CM W (rV K CM) ρ H σ (trim h.length r) Q) : okP K CM W (rV K CM) ρ H σ r Q := by
  cases r with
  | ok d h' =>
    intro ρ' H' v e s q
    have x2 : okP K CM W (rV K CM) ρ H σ (match cut h.length h' d with
      | some (e, cs) => .ok e cs
      | none => .bad) Q := x
    cases z : cut h.length h' d with
    | none => rw [z] at x2; exact x2.elim
    | some p =>
      obtain ⟨d1, cs⟩ := p
      rw [z] at x2
      obtain ⟨z1, z2, z3⟩ := cut_some z
      obtain ⟨e', k⟩ := e.cut
      rw [S.len] at k
      exact x2 ρ H' v e' (s.cut k z3 z2) (den_frz k s 40 q z1)
  | exc d h' =>
    intro ρ' H' cls od e s q
    have x2 : okP K CM W (rV K CM) ρ H σ (match cut h.length h' d with
      | some (e, cs) => .exc e cs
      | none => .bad) Q := x
    cases z : cut h.length h' d with
    | none => rw [z] at x2; exact x2.elim
    | some p =>
      obtain ⟨d1, cs⟩ := p
      rw [z] at x2
      obtain ⟨z1, z2, z3⟩ := cut_some z
      obtain ⟨e', k⟩ := e.cut
      rw [S.len] at k
      refine x2 ρ H' cls od e' (s.cut k z3 z2) ?_
      cases d with
      | obj c fs =>
        obtain ⟨C, g, hc, hh⟩ := q
        unfold frz at z1
        split at z1
        · rename_i hl
          cases z1
          refine ⟨C, g, hc, ?_⟩
          rcases hh with hh | ⟨dd, vs, a1, a2, a3, a4⟩
          · exact .inl hh
          · exact .inr ⟨dd, vs, a1, a2, a3, denL_low k a4 (lowF_L hl)⟩
        · obtain ⟨es, f1, f2⟩ := Option.map_eq_some_iff.mp z1
          subst f2
          have hl : es.length = _ := mapO_len f1
          rw [List.length_map] at hl
          refine ⟨C, g, hc, ?_⟩
          rcases hh with ⟨hh, ho⟩ | ⟨dd, vs, a1, a2, a3, a4⟩
          · subst hh
            exact .inl ⟨rfl, ho⟩
          · refine .inr ⟨dd, vs, a1, a2, ?_, ?_⟩
            · rw [zip_fst (by rw [List.length_map]; exact hl)]; exact a3
            · rw [zip_snd (by rw [List.length_map]; exact hl)]; exact denL_map (fun q z => den_frz k s 39 q z) a4 f1
      | _ => exact q.elim
  | bad => exact x
end
end
end DL

namespace DL
noncomputable section
open PySem PySem.Spec PyProof.Rows L2

/-! ### functions -/
/-- a def's promise where no guard is up -/
structure FnG (P : Program) (w : World) (K : PySem.W.Frag) (mg : Str → Option Value) (base : Heap) (k : Nat) (f : Addr) (fd : FuncData) (ps : List Str) (sp : Sp) : Prop where
  len : ∀ vs H Q E, sp vs H Q E → vs.length = ps.length
  go : ∀ (A : Around) (outer : List Env) (s : Shared) (H : Hp) (args : Args) (us : List Value) (vs : List V) (Q : VK) (E : XK), A.guards = some [] → Room k A → Env0 P w K mg base A outer s H → BindsTo s fd args (ps.zip us) → Vals vs us → sp vs H Q E →
    codeAny (model P w) A (.call (.ref f) args) (CR (L2.CX P w) outer P w H s Q E) s
section
variable {P : Program} {w : World} {K : PySem.W.Frag} {mg : Str → Option Value} {base : Heap} {k : Nat} {f : Addr} {fd : FuncData} {ps : List Str} {sp sp' : Sp}
theorem FnG.mono {j : Nat} (F : FnG P w K mg base j f fd ps sp) (h : j ≤ k) : FnG P w K mg base k f fd ps sp :=
  ⟨F.len, fun A outer s H args us vs Q E hg hr => F.go A outer s H args us vs Q E hg (hr.mono h)⟩
theorem FnG.imp (F : FnG P w K mg base k f fd ps sp) (h : ∀ vs H Q E, sp' vs H Q E → sp vs H Q E) : FnG P w K mg base k f fd ps sp' :=
  ⟨fun vs H Q E q => F.len vs H Q E (h _ _ _ _ q), fun A outer s H args us vs Q E hg hr he hb hv hs => F.go A outer s H args us vs Q E hg hr he hb hv (h _ _ _ _ hs)⟩
end
section
variable {P : Program} {w : World} {K : PySem.W.Frag} {mg : Str → Option Value} {base : Heap} {k : Nat} {f : Addr} {fd : FuncData} {N ps : List Str} {sp : Sp} {x qual : Str} {params : Arguments} {body : List Stmt} {scope : Scope} {dvs : List V} {kws : List (Str × V)}
/-- a def by its body, no guard up -/
theorem okG (F : FunD K x qual params body scope dvs kws f fd) (S : FnScope N ps scope) (len : ∀ vs H Q E, sp vs H Q E → vs.length = ps.length)
    (hb : ∀ (cdv : Value) (A : Around) (outer : List Env) (s : Shared) (H : Hp) (vs : List V) (Q : VK) (E : XK), A.guards = some [] → Room k (A.deeper (envOfC qual scope s.heap.objs.size f cdv)) → sp vs H Q E →
      ∃ t, PSs (cxOf (L2.CX P w) P w K mg base N qual scope f cdv A outer s H E) body t ∧ t { nx := fun _ H' => Q .non H', rt := Q } (start N vs) H) :
    FnG P w K mg base (k + 1) f fd ps sp := by
  obtain ⟨oc, od, dV, kV, doc, pm, an, cdv, ct, osl, rfl, lk, hcd, _, _⟩ := F.ex
  refine ⟨len, fun A outer s H args us vs Q E hg hr e0 hbind rv hsp => ?_⟩
  have hlen := len _ _ _ _ hsp
  have KX : K.In s.heap := e0.mod.kin.keeps fun b o e => (e0.bs b o e).1
  have nl : s.heap.NoLimit := e0.mod.nolimit.keeps fun b o e => (e0.bs b o e).1
  have hpar : ∀ y ∈ ps.zip us, scope.names.lookup y.1 = some .local ∨ (scope.names.lookup y.1 = some .cell ∧ ((cellsFrom (s.heap.objs.size + 1) scope.names []).lookup y.1).isSome = true) := by
    intro y hy
    obtain ⟨nm, vl⟩ := y
    rcases S.par nm (List.of_mem_zip hy).1 with q | q
    · exact Or.inl q
    · exact Or.inr ⟨q, PySem.W.cellsFrom_some _ _ _ (Or.inl q)⟩
  refine codeAny_call_function hr.depth (KX _ _ lk) rfl S.co S.gen rfl (PySem.W.codeRec_of KX hcd) (hbind _ _ _ _ ?_)
  refine wpAny_newFunctionEnv_cells S.kind hpar fun env he s1 ic => ?_
  subst he
  refine ⟨nl.keeps ic.toInCall.keep, codeAny_func ?_⟩
  obtain ⟨t, ht, hq⟩ := hb cdv A outer s H vs Q E hg (hr.deeper _) hsp
  refine wpAny_mono (ht.run [] s1 (start N vs) H _ (inv_start S hr.hd e0 hlen rv ic) hq) (fun fl s' hs => ?_) fun _ _ hs => hs
  cases fl with
  | next =>
    obtain ⟨_, H', J, q⟩ := hs
    exact ⟨V.non, H', J.os, J.bare, J.base, J.hok, rfl, q⟩
  | ret u =>
    obtain ⟨v, _, H', J, r2, q⟩ := hs
    exact ⟨v, H', J.os, J.bare, J.base, J.hok, r2, q⟩
  | brk =>
    obtain ⟨_, _, _, q⟩ := hs
    exact q.elim
  | cont =>
    obtain ⟨_, _, _, q⟩ := hs
    exact q.elim
end
section
variable {X : Cx} {k : Nat} {f : Addr} {fd : FuncData} {ps : List Str} {sp : Sp} {dvs : List V} {ds : List Value} {E : L2.St → XK} {x : Str} {p pos : Pos} {e : Expr} {es : List Expr} {t : TA}
theorem run_G {pins : List (Addr × Obj)} {σ : L2.St} {H : Hp} {s : Shared} {Q : VK} {us : List Value} {vs : List V} (F : FnG X.prog X.w X.K X.mg X.base k f fd ps sp) (hr : Room k X.A) (hgd : X.A.guards = some []) (hb : Binds X.K fd ps ds) (hd : Vals dvs ds) (hx : PassesAt (L2.CX X.prog X.w) X σ (E σ))
    (I : Inv X pins σ H s) (rv : Vals vs us) (hsp : sp (vs ++ dvs) H Q (E σ)) : wpAny (model X.prog X.w) X.A (call (.ref f) us) (EP X pins σ Q) X.xe s := by
  have rv2 : Vals (vs ++ dvs) (us ++ ds) := rv.append hd
  have hlen : (us ++ ds).length = ps.length := by
    rw [← rv2.length]
    exact F.len _ _ _ _ hsp
  refine wpAny_call (codeAny_mono (F.go X.A X.stack s H ⟨us, []⟩ (us ++ ds) (vs ++ dvs) Q (E σ) hgd hr I.env0 (hb s us I.kIn hlen) rv2 hsp) fun res s' hq => ?_)
  cases res with
  | error err => exact hx pins H s err s' I hq
  | ok fl =>
    cases fl with
    | next => exact False.elim hq
    | ret u => exact I.after hq
    | brk => exact False.elim hq
    | cont => exact False.elim hq
theorem pe_callG (F : FnG X.prog X.w X.K X.mg X.base k f fd ps sp) (hr : Room k X.A) (hgd : X.A.guards = some []) (hg : Gl X x) (hm : X.mg x = some (.ref f)) (hk : PySem.W.keepIn X.K (.ref f) = true) (hb : Binds X.K fd ps ds) (hd : Vals dvs ds) (hx : ∀ σ, PassesAt (L2.CX X.prog X.w) X σ (E σ))
    (ha : PA X (e :: es) t) (hdb : (x == ("__debug__" : Str)) = false) (he : starEach (e :: es) X.env = (false, eval e X.env) :: starEach es X.env) (hpl : (backTo pos (starEach es X.env)).any (·.1) = false) :
    PE X (.Call (.Name x p) (e :: es) [] pos) (tCallSD sp dvs E t) := by
  refine ⟨fun pins s σ H Q I hq => ?_⟩
  refine wpAny_Call_Name_kw (ld_glob I hg hm ?_ hdb)
  refine PySem.W.callWith_K (h₀ := X.base) I.ok.mod.kin hk (thn (ha.run pos pins s σ H _ I hq) fun us s1 hh => ?_) he hpl
  obtain ⟨vs, H1, I1, rv, q⟩ := hh
  exact ⟨I1.kIn, run_G F hr hgd hb hd (hx σ) I1 rv q⟩
end

/-! ### promises by data -/
abbrev DF := List D → List Cell → R D
def spD (K : PySem.W.Frag) (CM : CMap) (n : Nat) (F : DF) : Sp := fun vs H Q E => ∃ ρ h ds, Sim K CM ρ h H ∧ DenL K CM ρ H vs ds ∧ ds.length = n ∧ okP K CM (fun c o _ H' => E c o H') (rV K CM) ρ H [] (F ds h) Q
def env0 (n : Nat) (ds : List D) : En := ds.map some ++ List.replicate (n - ds.length) none
def doneS : SR → R D
  | .nx _ h => .ok .non h
  | .rt d h => .ok d h
  | .exc e _ h => .exc e h
  | _ => .bad
/-- a def of N names by its body -/
def fnB (N : Nat) (b : DS) : DF := fun ds h => doneS (b (env0 N ds) h)
/-- the same, what is left over let go -/
def fnD (N : Nat) (b : DS) : DF := fun ds h => trim h.length (fnB N b ds h)
theorem env0_ok {K : PySem.W.Frag} {CM : CMap} {ρ : Gh} {H : Hp} {vs : List V} {ds : List D} {N : List Str} (q : DenL K CM ρ H vs ds) : EnvOk K CM ρ H (start N vs) (env0 N.length ds) := by
  have hl := q.length
  refine ⟨by unfold L2.start env0; simp [hl], fun i d hi => ?_⟩
  unfold env0 at hi
  unfold L2.start
  by_cases h : i < ds.length
  · rw [List.getElem?_append_left (by simpa using h), List.getElem?_map] at hi
    rw [List.getElem?_append_left (by simpa [hl] using h), List.getElem?_map]
    cases e : ds[i]? with
    | none => rw [e] at hi; cases hi
    | some y =>
      rw [e] at hi
      cases hi
      obtain ⟨v, a, b⟩ := q.get e
      exact ⟨v, by rw [a] <;> rfl, b⟩
  · rw [List.getElem?_append_right (by simpa using h), List.getElem?_replicate] at hi
    split at hi <;> cases hi
theorem fn_start {K : PySem.W.Frag} {CM : CMap} {N : List Str} {n : Nat} {b : DS} {vs : List V} {H : Hp} {Q : VK} {E : XK} (x : spD K CM n (fnB N.length b) vs H Q E) : tS K CM (fun c o _ H' => E c o H') b { nx := fun _ H' => Q .non H', rt := Q } (start N vs) H := by
  obtain ⟨ρ, h, ds, S, q, hl, x⟩ := x
  refine ⟨ρ, _, h, S, env0_ok q, ?_⟩
  unfold fnB at x
  cases e : b (env0 N.length ds) h with
  | nx env h' => rw [e] at x; exact fun ρ' H' σ' f s q => x ρ' H' .non f s .non
  | rt d h' => rw [e] at x; exact fun ρ' H' v f s q => x ρ' H' v f s q
  | bk env h' => rw [e] at x; exact x.elim
  | ct env h' => rw [e] at x; exact x.elim
  | exc d env h' => rw [e] at x; exact fun ρ' H' σ' cls od f s q z => x ρ' H' cls od f s z
  | bad => rw [e] at x; exact x.elim
theorem sp_trim {K : PySem.W.Frag} {CM : CMap} {N n : Nat} {b : DS} {vs : List V} {H : Hp} {Q : VK} {E : XK} (x : spD K CM n (fnD N b) vs H Q E) : spD K CM n (fnB N b) vs H Q E := by
  obtain ⟨ρ, h, ds, S, q, hl, x⟩ := x
  exact ⟨ρ, h, ds, S, q, hl, okP.trim S x⟩
/-- a function of the module: F what it does to data -/
structure CallG (P : Program) (w : World) (K : PySem.W.Frag) (mg : Str → Option Value) (base : Heap) (CM : CMap) (k : Nat) (x : Str) (n : Nat) (F : DF) : Prop where
  ex : ∃ f fd ps, mg x = some (.ref f) ∧ PySem.W.keepIn K (.ref f) = true ∧ Binds K fd ps [] ∧ ps.length = n ∧ FnG P w K mg base k f fd ps (spD K CM n F)
theorem CallG.mono {P : Program} {w : World} {K : PySem.W.Frag} {mg : Str → Option Value} {base : Heap} {CM : CMap} {j k n : Nat} {x : Str} {F : DF} (c : CallG P w K mg base CM j x n F) (h : j ≤ k) : CallG P w K mg base CM k x n F := by
  obtain ⟨f, fd, ps, a, b, c, d, e⟩ := c.ex
  exact ⟨f, fd, ps, a, b, c, d, e.mono h⟩
/-- a def, by the derivation of its body -/
theorem def_of {P : Program} {w : World} {K : PySem.W.Frag} {mg : Str → Option Value} {base : Heap} {CM : CMap} {k : Nat} {f : Addr} {fd : FuncData} {N ps : List Str} {x qual : Str} {params : Arguments} {body : List Stmt} {scope : Scope} {b : DS}
    (F : FunD K x qual params body scope [] [] f fd) (hm : mg x = some (.ref f)) (S : FnScope N ps scope)
    (hbn : ∀ (kV doc pm : Value) (an : Option Addr) (cdv ct : Value) (us : List Value), us.length = ps.length → bindArgs (PySem.W.fnOf x qual params body scope .none kV doc pm an cdv ct) ⟨us, []⟩ = pure (ps.zip us))
    (hb : ∀ (cdv : Value) (A : Around) (outer : List Env) (s : Shared) (H : Hp) (E : XK), (A.deeper (envOfC qual scope s.heap.objs.size f cdv)).guards = some [] → Room k (A.deeper (envOfC qual scope s.heap.objs.size f cdv)) →
      Takes (cxOf (L2.CX P w) P w K mg base N qual scope f cdv A outer s H E) (fun c o _ H' => E c o H') →
      PSs (cxOf (L2.CX P w) P w K mg base N qual scope f cdv A outer s H E) body (tS K CM (fun c o _ H' => E c o H') b)) :
    CallG P w K mg base CM (k + 1) x ps.length (fnD N.length b) := by
  refine ⟨f, fd, ps, hm, F.kp, F.bindsN hbn, rfl, FnG.imp ?_ fun _ _ _ _ => sp_trim⟩
  refine okG F S (fun vs H Q E h => ?_) fun cdv A outer s H vs Q E hg hr h => ⟨_, hb cdv A outer s H E hg hr (takes_of rfl rfl rfl rfl), fn_start h⟩
  obtain ⟨ρ, h0, ds, S0, q, hl, _⟩ := h
  rw [q.length, hl]
section
variable {X : Cx} {CM : CMap} {W : WX} {k n : Nat} {x : Str} {p pos : Pos} {e : Expr} {es : List Expr} {F : DF} {das : DEs}
def cFn (F : DF) (n : Nat) (das : DEs) : DE := fun env h => (das env h).bind fun ds h1 => if ds.length = n then F ds h1 else .bad
theorem okP.call {K : PySem.W.Frag} {ρ : Gh} {H : Hp} {σ : L2.St} {r : R D} {Q : V → Hp → Prop} (z : okP K CM W (rV K CM) ρ H σ r Q) : okP K CM (fun c o _ H' => WE W σ c o H') (rV K CM) ρ H [] r Q := by
  cases r with
  | ok d h => exact z
  | exc d h => exact z
  | bad => exact z
theorem call_of {σ : L2.St} {H : Hp} {Q : V → Hp → Prop} (x : tD X.K CM W (cFn F n das) σ H Q) : tCallSD (spD X.K CM n F) [] (WE W) (tDs X.K CM W das) σ H Q := by
  obtain ⟨ρ, env, h, S, E, x⟩ := x
  obtain ⟨r1, r2, r3, r4, r5, r6⟩ := tDs.first ⟨S, E⟩ x
  refine ⟨r1, r2, r3, r4, r5, r6.mono fun vs H1 ⟨ρ1, h1, ds, nw, e1, q, z⟩ => ?_⟩
  split at z
  · rename_i hl
    exact ⟨ρ1, h1, ds, nw.sim, by rw [List.append_nil]; exact q, hl, okP.call z⟩
  · exact z.elim
theorem d_call (C : CallG X.prog X.w X.K X.mg X.base CM k x n F) (hr : Room k X.A) (hgd : X.A.guards = some []) (tk : Takes X W) (ha : PA X (e :: es) (tDs X.K CM W das)) (hg : Gl X x := by rfl) (hdb : (x == ("__debug__" : Str)) = false := by decide)
    (he : starEach (e :: es) X.env = (false, eval e X.env) :: starEach es X.env := by rfl) (hpl : (backTo pos (starEach es X.env)).any (·.1) = false := by rfl) :
    PE X (.Call (.Name x p) (e :: es) [] pos) (tD X.K CM W (cFn F n das)) := by
  obtain ⟨f, fd, ps, hm, hk, hb, hl, G⟩ := C.ex
  exact PE.imp (pe_callG G hr hgd hg hm hk hb .nil (fun σ => passAt tk σ) ha hdb he hpl) fun _ _ _ x => call_of x
end
end
end DL

namespace DL
noncomputable section
open PySem PySem.Spec PyProof.Rows L2
open Calls
/-! ### a tuple from behind -/
section
variable {prog : Program} {w : World} {A : Around} {E : Value → Shared → Prop} {s : Shared}
end
variable {X : Cx} {CM : CMap} {W : WX} {pos : Pos}
def opRev (x : D) (h : List Cell) : R D := match seqOf h x with
  | some (true, ds) => .ok (.tup ds.reverse) h
  | some (false, ds) => .ok (.lst ds.reverse) h
  | none => .bad
def cRev (d : DE) : DE := fun env h => (d env h).bind opRev
end
end DL

namespace DL
noncomputable section
open PySem PySem.Spec PyProof.Rows L2
variable {X : Cx} {CM : CMap} {W : WX} {pos : Pos}
/-! ### isinstance -/
inductive Kd where
  | non | bl | int | str | tup | lst | dic | own (c : Nat) | bad
deriving DecidableEq
def kdOf (h : List Cell) : D → Kd
  | .non => .non
  | .bl _ => .bl
  | .int _ => .int
  | .str _ => .str
  | .tup _ => .tup
  | .lst _ => .lst
  | .dic _ => .dic
  | .obj c _ => if c < 1000 then .own c else .bad
  | .ref n => match h[n]? with
    | some (.lst _) => .lst
    | some (.dic _) => .dic
    | some (.obj c _) => if c < 1000 then .own c else .bad
    | _ => .bad
  | .err _ _ => .bad
  | .xo _ _ => .bad
def Kd.ty : Kd → String
  | .non => "NoneType" | .bl => "bool" | .int => "int" | .str => "str" | .tup => "tuple" | .lst => "list" | .dic => "dict" | _ => ""
inductive Ty0 where
  | bl | int | str | tup | lst | dic
def Ty0.nm : Ty0 → String
  | .bl => "bool" | .int => "int" | .str => "str" | .tup => "tuple" | .lst => "list" | .dic => "dict"
def isa0 : Ty0 → Kd → Bool
  | .bl, .bl => true
  | .int, .bl => true
  | .int, .int => true
  | .str, .str => true
  | .tup, .tup => true
  | .lst, .lst => true
  | .dic, .dic => true
  | _, _ => false
/-- what is known of the module's own classes -/
structure OwnAll (K : PySem.W.Frag) (CM : CMap) : Prop where
  cl : ∀ c C, CM.c c C → c < 1000 → Cls K C ∧ PySem.W.findIn K (.ref C) "__class__" = some (some (.builtin "object.__class__")) ∧ PySem.W.specialIn K (.builtin "object.__class__") "__get__" = some (some (.builtin "getset_descriptor.__get__")) ∧
    PySem.W.takesIn K (.builtin "object.__class__") = some true ∧ PySem.W.mroIn K C (.type "object") = some true
  no : ∀ c C (T : Ty0), CM.c c C → c < 1000 → PySem.W.kitOne K (.ref C) (.type T.nm) = some false
theorem OwnAll.none {K : PySem.W.Frag} : OwnAll K ⟨fun _ _ => False, fun _ _ _ => False, [], fun _ _ => False, [], [], []⟩ := ⟨fun _ _ h => h.elim, fun _ _ _ h => h.elim⟩
/-- the class of a kind -/
inductive KdV (CM : CMap) : Kd → Value → Prop where
  | ty (k : Kd) : (∀ c, k ≠ .own c) → KdV CM k (.type k.ty)
  | own {c : Nat} {C : Addr} : CM.c c C → c < 1000 → KdV CM (.own c) (.ref C)
def cIsa (T : Ty0) (d : DE) : DE := fun env h => (d env h).bind fun x h1 => if kdOf h1 x = .bad then .bad else .ok (.bl (isa0 T (kdOf h1 x))) h1
/-! ### stores into lists -/
def setAt (x i y : D) (h : List Cell) : Option (List Cell) := match x, i with
  | .ref n, .int k => (match h[n]? with
    | some (.lst ds) => (match ixN ds.length k with
      | some j => some (h.set n (.lst (ds.set j y)))
      | none => none)
    | _ => none)
  | _, _ => none
/-- o[i] = e -/
def sSetI (o i e : DE) : DS := fun env h => liftS (e env h) env fun y h1 => liftS (o env h1) env fun x h2 => liftS (i env h2) env fun k h3 => match setAt x k y h3 with
  | some h4 => .nx env h4
  | none => .bad
/-! ### xs.append(e) -/
def appD (x y : D) (h : List Cell) : R D := match x with
  | .ref n => (match h[n]? with
    | some (.lst ds) => if ds.length < sizeLine then .ok .non (h.set n (.lst (ds ++ [y]))) else .bad
    | _ => .bad)
  | _ => .bad
def isLst (h : List Cell) (x : D) : Bool := match seqOf h x with
  | some (false, _) => true
  | _ => false
def cApp (o e : DE) : DE := fun env h => (o env h).bind fun x h1 => if isLst h1 x = true then (e env h1).bind fun y h2 => appD x y h2 else .bad
end
end DL

namespace DL
noncomputable section
open PySem PySem.Spec PyProof.Rows L2
variable {X : Cx} {CM : CMap} {W : WX} {pos : Pos}
/-! ### constants of the module, an empty dict -/
structure GlobD (K : PySem.W.Frag) (CM : CMap) (mg : Str → Option Value) (x : Str) (d : D) : Prop where
  ex : ∃ (v : V) (u : Value), mg x = some u ∧ RelV v u ∧ ∀ ρ H, Den K CM ρ H v d
theorem d_con {x : Str} {d : D} (g : GlobD X.K CM X.mg x d) (hg : Gl X x := by rfl) (hd : (x == ("__debug__" : Str)) = false := by decide) : PE X (.Name x pos) (tD X.K CM W (cK d)) := by
  obtain ⟨v, u, hm, r, q⟩ := g.ex
  exact d_glob hg hm r q hd
def cDic0 : DE := fun _ h => .ok (.dic []) h
theorem d_dic0 : PE X (.Dict [] [] pos) (tD X.K CM W cDic0) := PE.imp pe_dnewK fun _ H Q ⟨ρ, _, h, S, _, x⟩ => by
  intro p hp
  exact x ρ _ _ (Ext.fresh hp) (S.fresh hp) (.dic upd_same (S.cel.notMem hp) rfl .nil)
/-! ### the law -/
/-- nothing is captured; the tables are at hand -/
structure TabC (CM : CMap) (cs : List (Addr × Addr)) : Prop where
  t : ∀ p ∈ CM.t, p.1 ∈ cs.map (·.2)
  fx : CM.fx = []
  cv : CM.cv = []
  cd : CM.cd = []
theorem den_ns {K : PySem.W.Frag} {ρ : Gh} {H : Hp} : ∀ ns : List Int, DenL K CM ρ H (ns.map V.int) (ns.map D.int)
  | [] => .nil
  | n :: ns => .cons (.int n) (den_ns ns)
/-- what is known of the tables at hand: the code objects, their tables, empty -/
structure TabsH (K : PySem.W.Frag) (mg : Str → Option Value) (h : Heap) (cs : List (Addr × Addr)) : Prop where
  emp : ∀ p ∈ cs, h.get? p.2 = some { cls := .none, data := .fields #[] }
  out : ∀ p ∈ cs, K.lookup p.2 = none
  code : ∀ p ∈ cs, PySem.W.CodeHd h p.1 p.2
theorem law_G {P : Program} {w : World} {K : PySem.W.Frag} {mg mb : Str → Option Value} {k : Nat} {fa a : Addr} {fd : FuncData} {x : Str} {F : DF} {s₁ : Shared} {vs : List Value} {ns : List Int} {cs : List (Addr × Addr)}
    (KX : K.In s₁.heap) (hns : s₁.heap.Ns mainGlobals mg) (hb : s₁.heap.Ns builtinsNs mb) (hbb : ∀ x : Str, x ≠ "__name__" → mb x = bootBuiltins x) (hlim : s₁.heap.NoLimit) (hg : s₁.gens = #[])
    (TH : TabsH K mg s₁.heap cs) (hbm : ∃ (bm : Addr) (ob : Obj), mg "__builtins__" = some (.ref bm) ∧ bm ≠ builtinsNs ∧ s₁.heap.get? bm = some ob ∧ ob.cls = .type "module" ∧ ob.dict = some builtinsNs ∧ ob.data = .plain)
    (hct : TabC CM cs)
    (ha : s₁.heap.get? a = some { cls := .type "list", data := .seq vs.toArray }) (hi : IntsAre vs ns) (hl : ns.length ≤ sizeLine) (hr : Room k callerA) (hgd : callerA.guards = some [])
    (G : ∀ base : Heap, K.In base → base.Ns mainGlobals mg → (∀ p ∈ cs, LamX.TabB base mg p.1 p.2) → FnG P w K mg base k fa fd [x] (spD K CM 1 F)) (hbind : ∀ (s : Shared) (u : Value), BindsTo s fd ⟨[u], []⟩ [(x, u)])
    (hF : ∃ h', F [.lst (ns.map .int)] [] = .ok (.bl true) h') :
    codeAny (model P w) callerA (.call (.ref fa) ⟨[.ref a], []⟩) (fun r s' => r = .ok (.ret (.bool true)) ∧ OldK s₁.heap s'.heap ∧ s'.os = s₁.os ∧ AllBare s'.gens) s₁ := by
  have rv := vals_ints hi
  have lenV := hi.length
  obtain ⟨hE, eF⟩ := hF
  have tabAt : ∀ {b : Addr}, b ∈ cs.map (·.2) → s₁.heap.get? b = some { cls := .none, data := .fields #[] } ∧ K.lookup b = none := fun {b} hb => by
    obtain ⟨p, hp, rfl⟩ := List.mem_map.mp hb
    exact ⟨TH.emp p hp, TH.out p hp⟩
  have inT : ∀ p ∈ cs, p.2 ∈ cs.map (·.2) := fun p hp => List.mem_map.mpr ⟨p, hp, rfl⟩
  have aT : a ∉ cs.map (·.2) := fun z => by
    have q := (tabAt z).1.symm.trans ha
    cases q
  have key : ∀ H : Hp, (∀ b ∈ cs.map (·.2), H b = some (.tbl #[])) → (∀ b o, H b = some o → (b = a ∧ ∃ ob xs, o = .frz ob (.lst xs)) ∨ b ∈ cs.map (·.2)) → FrL K ⟨[], []⟩ H a (ns.map V.int) → HOk P w H s₁.heap → (H a ≠ none → K.lookup a = none) →
      codeAny (model P w) callerA (.call (.ref fa) ⟨[.ref a], []⟩) (fun r s' => r = .ok (.ret (.bool true)) ∧ OldK s₁.heap s'.heap ∧ s'.os = s₁.os ∧ AllBare s'.gens) s₁ := by
    intro H hH hO hS hok hK
    have old : ∀ {b : Addr} {o : Obj}, s₁.heap.get? b = some o → H b = none → (hidT s₁.heap H).get? b = some o := fun e n => hidT_get e n
    have free : ∀ {b : Addr} {o : Obj}, s₁.heap.get? b = some o → (∀ vs n, o.data ≠ .seq vs n) → o.data ≠ .fields #[] → H b = none := fun {b o} e d1 d2 => by
      cases q : H b with
      | none => rfl
      | some u =>
        rcases hO b u q with ⟨rfl, _⟩ | hb
        · rw [ha] at e
          cases e
          exact absurd rfl (d1 _ _)
        · rw [(tabAt hb).1] at e
          cases e
          exact absurd rfl d2
    have dct : ∀ {b : Addr} {o : Obj} {es : Array DictEntry} {ep : Nat}, s₁.heap.get? b = some o → o.data = .dict es ep → H b = none := fun e d =>
      free e (fun _ _ z => by rw [d] at z; cases z) fun z => by rw [d] at z; cases z
    have nsH : ∀ {b : Addr} {m : Str → Option Value}, s₁.heap.Ns b m → (hidT s₁.heap H).Ns b m := fun {b m} ⟨o, es, ep, e, d, r⟩ => ⟨o, es, ep, old e (dct e d), d, r⟩
    have kin : K.In (hidT s₁.heap H) := by
      intro b o e
      refine old (KX b o e) ?_
      cases q : H b with
      | none => rfl
      | some u =>
        rcases hO b u q with ⟨rfl, _⟩ | hb
        · rw [hK (by rw [q]; simp)] at e
          cases e
        · rw [(tabAt hb).2] at e
          cases e
    have hM : Mod K mg (hidT s₁.heap H) := ⟨kin, nsH hns, ⟨mb, nsH hb, hbb⟩, let ⟨mc, h1, h2⟩ := hlim; ⟨mc, nsH h1, h2⟩⟩
    have TB : ∀ p ∈ cs, LamX.TabB (hidT s₁.heap H) mg p.1 p.2 := fun p hp => by
      have hP := TH.emp p hp
      refine ⟨?_, ?_, fun z => ?_⟩
      · obtain ⟨o, us, file, tf, flags, tg, inF, text, tt, e1, r1, r2, r3, r4⟩ := TH.code p hp
        refine ⟨o, us, file, tf, flags, tg, inF, text, tt, old e1 (free e1 (fun _ _ z => by rw [r2] at z; cases z) fun z => ?_), r1, r2, r3, r4⟩
        rw [r2] at z
        cases z
        simp at r3
      · obtain ⟨bm, ob, b1, b2, b3, b4, b5, b6⟩ := hbm
        have n1 : bm ≠ mainGlobals := fun q => by
          obtain ⟨o, es, ep, e, hd, _⟩ := hns
          rw [q, e] at b3
          cases b3
          rw [hd] at b6
          cases b6
        have n2 : bm ≠ p.2 := fun q => by
          rw [q, hP] at b3
          cases b3
          cases b6
        exact ⟨bm, ob, b1, b2, n1, n2, old b3 (free b3 (fun _ _ z => by rw [b6] at z; cases z) fun z => by rw [b6] at z; cases z), b4, b5, b6⟩
      · obtain ⟨o, es, ep, e, hd, _⟩ := hns
        rw [z, hP] at e
        cases e
        cases hd
    have e0 : Env0 P w K mg (hidT s₁.heap H) callerA [] s₁ H := ⟨rfl, hM, fun b o e => of_hidT e, Nat.le_of_eq (hidT_size _ _), trivial, fun b hb => absurd (show b ∈ ([] : List Addr) from hb) (by simp), hok, .of_eq hg⟩
    have S0 : Sim K CM ⟨[], []⟩ [] H := ⟨rfl, by simp, fun b hb => by simp at hb, fun n b c e1 _ => by simp at e1, ⟨fun p hp => LamX.TabS.nil (hH _ (hct.t p hp)), (by rw [hct.fx]; exact fun p hp => nomatch hp), (by rw [hct.cv, hct.cd]; exact .nil), (by rw [hct.cd]; rfl)⟩⟩
    have sp0 : spD K CM 1 F [.ref a] H (fun v _ => v = .bl true) fun _ _ _ => False := by
      refine ⟨⟨[], []⟩, [], [.lst (ns.map .int)], S0, .cons (.lst hS (den_ns ns)) .nil, rfl, ?_⟩
      rw [eF]
      intro ρ' H' v _ _ q
      have q' : Den K CM ρ' H' v (.bl true) := q
      cases q'
      rfl
    refine codeAny_mono ((G _ kin (nsH hns) TB).go callerA [] s₁ H ⟨[.ref a], []⟩ [.ref a] [.ref a] _ _ hgd hr e0 (hbind s₁ (.ref a)) (.cons rfl .nil) sp0) fun r s' h => ?_
    cases r with
    | error e =>
      obtain ⟨_, _, _, _, _, _, _, _, _, _, _, _, z⟩ := h
      exact z.elim
    | ok fl =>
      cases fl with
      | next => exact False.elim h
      | brk => exact False.elim h
      | cont => exact False.elim h
      | ret u =>
        obtain ⟨v, H', os, bare, un, hok', r', q⟩ := h
        have q' : v = .bl true := q
        subst q'
        obtain rfl : u = Value.bool true := r'
        have same : ∀ b o, b ∉ cs.map (·.2) → s₁.heap.get? b = some o → s'.heap.get? b = some o := fun b o nb e => by
          cases q : H b with
          | none => exact un.keep b o e q (by intro z; exact absurd (show b ∈ ([] : List Addr) from z) (by simp)) (by simp)
          | some u =>
            rcases hO b u q with ⟨_, ob, xs, z⟩ | z
            · subst z
              have z2 := un.frzs b ob _ q
              obtain ⟨e1, _⟩ := hok b _ q
              obtain ⟨e2, _⟩ := hok' b _ z2
              rw [e] at e1
              cases e1
              exact e2
            · exact absurd z nb
        have more : ∀ p ∈ cs, ∃ ts : Array Value, s'.heap.get? p.2 = some { cls := .none, data := .fields ts } := fun p hp => by
          obtain ⟨ts, z⟩ := un.tbls p.2 #[] (hH _ (inT p hp))
          exact ⟨_, hok' p.2 _ z⟩
        refine ⟨rfl, ⟨fun b o e => ?_, fun b o e => ?_⟩, os, bare⟩
        · by_cases hb : b ∈ cs.map (·.2)
          · obtain ⟨p, hp, rfl⟩ := List.mem_map.mp hb
            obtain ⟨ts, hm⟩ := more p hp
            rw [TH.emp p hp] at e
            cases e
            exact .inr (.inl ⟨((TH.code p hp).tab (TH.emp p hp)).isCodeTable, rfl, #[], ts, rfl, by rw [Array.empty_append]; exact hm⟩)
          · exact .inl (same b o hb e)
        · by_cases hb : b ∈ cs.map (·.2)
          · obtain ⟨p, hp, rfl⟩ := List.mem_map.mp hb
            obtain ⟨ts, hm⟩ := more p hp
            exact ⟨_, hm⟩
          · exact ⟨o, same b o hb e⟩
  cases hk : K.lookup a with
  | some o =>
    have e := KX a o hk
    rw [ha] at e
    cases e
    refine key (fun b => if b ∈ cs.map (·.2) then some (.tbl #[]) else none) (fun b hb => if_pos hb) (fun b o z => ?_) (.inr ⟨vs, _, hk, by rw [lenV]; exact hl, rv⟩) (fun b u z => ?_) fun z => absurd (show (if a ∈ cs.map (·.2) then some (HO.tbl #[]) else none) = none from if_neg aT) z
    · by_cases hb : b ∈ cs.map (·.2)
      · exact .inr hb
      · have z' := (if_neg hb).symm.trans z
        cases z'
    · by_cases hb : b ∈ cs.map (·.2)
      · have z' := (if_pos hb).symm.trans z
        cases z'
        exact (tabAt hb).1
      · have z' := (if_neg hb).symm.trans z
        cases z'
  | none =>
    refine key (fun b => if b = a then some (.frz { cls := .type "list", data := .seq vs.toArray } (.lst (ns.map V.int))) else if b ∈ cs.map (·.2) then some (.tbl #[]) else none) (fun b hb => (if_neg (fun z => aT (by rw [← z]; exact hb))).trans (if_pos hb)) (fun b o z => ?_) (.inl ⟨.inr ⟨{ cls := .type "list", data := .seq vs.toArray }, if_pos rfl⟩, fun q => ?_⟩) (fun b u z => ?_) fun _ => hk
    · by_cases hb : b = a
      · have z' := (if_pos hb).symm.trans z
        cases z'
        exact .inl ⟨hb, _, _, rfl⟩
      · have z1 := (if_neg hb).symm.trans z
        by_cases hb2 : b ∈ cs.map (·.2)
        · exact .inr hb2
        · have z' := (if_neg hb2).symm.trans z1
          cases z'
    · rcases Gh.mem.mp q with q | q
      · cases q
      · cases q
    · by_cases hb : b = a
      · have z' := (if_pos hb).symm.trans z
        cases z'
        subst hb
        exact ⟨ha, by rw [List.length_map]; exact hl, vs, _, rv, ha⟩
      · have z1 := (if_neg hb).symm.trans z
        by_cases hb2 : b ∈ cs.map (·.2)
        · have z' := (if_pos hb2).symm.trans z1
          cases z'
          exact (tabAt hb2).1
        · have z' := (if_neg hb2).symm.trans z1
          cases z'
/-- the end of a law's head -/
theorem walk_G {l : PySem.W.OpenLaw} {n k : Nat} {q : Program} {loose : List Str} {XP : (Str → Option Value) → Heap → Prop} {YP : World → Heap → Prop} {d : DefRec} {x : Str} {F : DF}
    (hn : l.most = some n) (hn2 : n ≤ sizeLine) (hdf : d.params.defaults = []) (hr : Room k callerA) (hgd : callerA.guards = some [])
    (G : ∀ (w : World) (mg : Str → Option Value) (fa : Addr) (h : Heap), YP w h → h.Ns mainGlobals mg → mg d.name = some (.ref fa) →
      ∃ (K : PySem.W.Frag) (fd : FuncData) (CM : CMap) (cs : List (Addr × Addr)), K.In h ∧ (∀ (s : Shared) (u : Value), BindsTo s fd ⟨[u], []⟩ [(x, u)]) ∧ (TabsH K mg h cs ∧ TabC CM cs) ∧ ∀ base : Heap, K.In base → base.Ns mainGlobals mg → (∀ p ∈ cs, LamX.TabB base mg p.1 p.2) → FnG l.prog w K mg base k fa fd [x] (spD K CM 1 F))
    (hF : ∀ ns : List Int, ns.length ≤ n → ∃ h', F [.lst (ns.map .int)] [] = .ok (.bl true) h') :
    PySem.W.WalkO q loose XP YP l.row.toRowW d [] (fun f vs => PySem.call f vs) := by
  refine Att.attach_call hn hdf fun w s₀ s₁ mg mb fa o pm cd doc a vs ns Gr Y ho hd hcd hmg hobj hints hlen hg => ?_
  obtain ⟨K, fd, CM, cs, KX, hb, ⟨TH, hct⟩, hG⟩ := G w mg fa _ Y Gr.T.g hmg
  exact law_G KX Gr.T.g Gr.T.b Gr.T.builtins Gr.T.nolimit hg TH Gr.T.bmain hct hobj hints (Nat.le_trans hlen hn2) hr hgd hG hb (hF ns hlen)
end
end DL

namespace DL
noncomputable section
open PySem PySem.Spec PyProof.Rows L2 He
/-! ### what the head tells -/
def frP (g : Addr → Option Obj) (n : Nat) : PySem.W.Frag := frG g (sysModules :: asD g n)
def sysB (K : PySem.W.Frag) : Bool := match K.lookup sysModules with
  | some o => !decide (o.cls = .type "list")
  | none => false
theorem sysB_ok {K : PySem.W.Frag} (h : sysB K = true) : SysK K := by
  unfold sysB at h
  split at h
  · rename_i o e
    exact ⟨o, e, fun z => by rw [z] at h; simp at h⟩
  · cases h
abbrev AlP : Type := AlD × Bool
def obsP (n : Nat) (fa : List Fa) (fn : List DefD) (ex : PySem.W.Frag → Bool) (g : Addr → Option Obj) : AlP := (obsD fa fn (frP g n), ex (frP g n) && sysB (frP g n))
structure SaysP (fa : List Fa) (fn : List DefD) (ex : PySem.W.Frag → Bool) (K : PySem.W.Frag) : Prop where
  d : SaysD fa fn K
  ex : ex K = true
  sys : SysK K
def hookP (n : Nat) (fa : List Fa) (fn : List DefD) (ex : PySem.W.Frag → Bool) : PySem.W.Hook where
  α := AlP
  obs := fun s => obsP n fa fn ex s.heap.get?
  val := fun _ => (valD fn, true)
  says := fun _ h => ∃ K : PySem.W.Frag, K.In h ∧ SaysP fa fn ex K
  of := fun _ s e => by
    have e1 := congrArg (fun z : AlP => z.1) e
    have e2 := congrArg (fun z : AlP => z.2) e
    obtain ⟨h1, h2⟩ := ba e2
    exact ⟨_, frG_in, e1, h1, sysB_ok h2⟩
  keeps := fun _ _ _ ⟨K, hK, c⟩ k => ⟨K, PySem.W.Frag.In.keeps hK k, c⟩
theorem obsP_eq {n : Nat} {fa : List Fa} {fn : List DefD} {ex : PySem.W.Frag → Bool} {g : Addr → Option Obj} {s : Shared} (h : ∀ a, g a = s.heap.get? a) : obsP n fa fn ex g = (hookP n fa fn ex).obs s := by
  have e : g = s.heap.get? := funext h
  rw [e] <;> rfl
section
variable {fa : List Fa} {fn : List DefD} {ex : PySem.W.Frag → Bool} {K : PySem.W.Frag} {h : Heap} {mg : Str → Option Value} {CM : CMap}
theorem free_P (X : K.In h) (G : h.Ns mainGlobals mg) (c : SaysP fa fn ex K) {x : Str} (i : Nat) (e : fa[i]? = some (.free x) := by rfl) : mg x = none := free_ok X G (c.d.fact i (f := .free x) e)
theorem int_P (X : K.In h) (G : h.Ns mainGlobals mg) (c : SaysP fa fn ex K) {x : Str} {z : Int} (i : Nat) (e : fa[i]? = some (.int x z) := by rfl) : GlobD K CM mg x (.int z) := by
  obtain ⟨t, m⟩ := int_ok X G (c.d.fact i (f := .int x z) e)
  exact ⟨.int z, _, m, ⟨t, rfl⟩, fun _ _ => .int z⟩
/-- a def -/
structure DefG (K : PySem.W.Frag) (mg : Str → Option Value) (x : Str) (st : Stmt) : Prop where
  ex : ∃ f fd, FunD K x x (defArgs st) (defBody st) (defScope st) [] [] f fd ∧ mg x = some (.ref f)
theorem def_P (X : K.In h) (G : h.Ns mainGlobals mg) (c : SaysP fa fn ex K) {x : Str} {st : Stmt} (i j : Nat) (e : fn[i]? = some ⟨(x, none), x, x, defArgs st, defBody st, defScope st, [], []⟩ := by rfl) (e2 : fa[j]? = some (.glo x) := by rfl) : DefG K mg x st := by
  obtain ⟨fd, F⟩ := c.d.def_ i e
  exact ⟨_, fd, F, glo_ok X G (c.d.fact j (f := .glo x) e2)⟩
/-- a tuple of plain values -/
inductive Pv where
  | int (i : Int) | str (s : Str) | bl (b : Bool) | non
def Pv.dv : Pv → Dv
  | .int i => .int i | .str s => .str s | .bl b => .bl b | .non => .non
def Pv.d : Pv → D
  | .int i => .int i | .str s => .str s | .bl b => .bl b | .non => .non
theorem pv_den {ρ : Gh} {H : Hp} : ∀ vs : List Pv, DenL K CM ρ H ((vs.map Pv.dv).map (Dv.v K)) (vs.map Pv.d)
  | [] => .nil
  | v :: vs => .cons (by cases v <;> constructor) (pv_den vs)
theorem tup_P (X : K.In h) (G : h.Ns mainGlobals mg) (c : SaysP fa fn ex K) {x : Str} (j : Nat) (vs : List Pv) (t : tupB K x (vs.map Pv.dv) = true) (e2 : fa[j]? = some (.glo x) := by rfl) : GlobD K CM mg x (.tup (vs.map Pv.d)) :=
  ⟨.ref (ga K x), _, glo_ok X G (c.d.fact j (f := .glo x) e2), rfl, fun _ H => .tup (tupB_ok t H) (pv_den vs)⟩
end
end
end DL

namespace DL
noncomputable section
open PySem PySem.Spec PyProof.Rows L2
variable {X : Cx} {CM : CMap} {W : WX} {pos : Pos}
theorem pts_yes : PTs X [] (tDT X.K CM W cYes) := ⟨fun pins s σ H Q I ⟨ρ, env, h, S, E, x⟩ => pts_nil.run pins s σ H Q I (x.val S rfl)⟩
/-! ### a + b, to be changed -/
/-! ### a def that gives a thing that will be changed -/
def lowC (n : Nat) : Cell → Bool
  | .lst ds => lowL n ds
  | .dic kvs => lowK n kvs
  | .obj _ fs => lowF n fs
  | .dkl kvs => lowK n kvs
  | .dt kvs => lowL n (kvs.map (·.2))
  | .dtl kvs => lowL n (kvs.map (·.2))
def trimC (n : Nat) : R D → R D
  | .ok (.ref k) h => match h[k]? with
    | some c => if n ≤ k ∧ n ≤ h.length ∧ lowC n c = true ∧ (h.take n).all (lowC n) = true then .ok (.ref n) (h.take n ++ [c]) else .bad
    | none => .bad
  | .ok _ _ => .bad
  | r => trim n r
section
variable {K : PySem.W.Frag} {ρ ρ' : Gh} {h : List Cell} {H : Hp} {n : Nat}
mutual
theorem den_more (hc : ∀ i a, i < n → ρ'.c[i]? = some a → ρ.c[i]? = some a) (ho : ∀ a, a ∉ ρ' → a ∉ ρ) : ∀ {v : V} {d : D}, Den K CM ρ' H v d → low n d = true → Den K CM ρ H v d
  | _, _, .non, _ => .non
  | _, _, .bl b, _ => .bl b
  | _, _, .int i, _ => .int i
  | _, _, .str s, _ => .str s
  | _, _, .tup h t, q => .tup h (denL_more hc ho t q)
  | _, _, .lst h t, q => .lst (h.elim (fun z => .inl ⟨z.1, ho _ z.2⟩) .inr) (denL_more hc ho t q)
  | _, _, .dic h o m t, q => .dic h (ho _ o) m (denL_more hc ho t (lowK_L q))
  | _, _, .obj g h o m t, q => .obj g h (ho _ o) m (denL_more hc ho t (lowF_L q))
  | _, _, .err0 _ _, q => by cases q
  | _, _, .err _ _ _ _ _, q => by cases q
  | _, _, .xo g h m t, q => .xo g (h.of ho) m (denL_more hc ho t (lowF_L q))
  | _, _, .ref h, q => .ref (hc _ _ (of_decide_eq_true q) h)
theorem denL_more (hc : ∀ i a, i < n → ρ'.c[i]? = some a → ρ.c[i]? = some a) (ho : ∀ a, a ∉ ρ' → a ∉ ρ) : ∀ {vs : List V} {ds : List D}, DenL K CM ρ' H vs ds → lowL n ds = true → DenL K CM ρ H vs ds
  | _, _, .nil, _ => .nil
  | _, _, .cons a t, q => .cons (den_more hc ho a (Bool.and_eq_true_iff.mp q).1) (denL_more hc ho t (Bool.and_eq_true_iff.mp q).2)
end
theorem cell_more (hc : ∀ i a, i < n → ρ'.c[i]? = some a → ρ.c[i]? = some a) (ho : ∀ a, a ∉ ρ' → a ∉ ρ) {a : Addr} {c : Cell} (ok : CellOk K CM ρ' H a c) (q : lowC n c = true) : CellOk K CM ρ H a c := by
  cases c with
  | lst ds => obtain ⟨vs, e, t⟩ := ok; exact ⟨vs, e, denL_more hc ho t q⟩
  | dic kvs => obtain ⟨vs, e, m, t⟩ := ok; exact ⟨vs, e, m, denL_more hc ho t (lowK_L q)⟩
  | obj c fs => obtain ⟨C, dx, vs, g, e, m, t⟩ := ok; exact ⟨C, dx, vs, g, e, m, denL_more hc ho t (lowF_L q)⟩
  | dkl kvs => obtain ⟨o, vs, e, m, t⟩ := ok; exact ⟨o, vs, e, m, denL_more hc ho t (lowK_L q)⟩
  | dt kvs => obtain ⟨vs, e, m, t⟩ := ok; exact ⟨vs, e, m, denL_more hc ho t q⟩
  | dtl kvs => obtain ⟨o, vs, e, m, t⟩ := ok; exact ⟨o, vs, e, m, denL_more hc ho t q⟩
theorem okP.trimC {ρ : Gh} {σ : L2.St} {r : R D} {Q : V → Hp → Prop} (S : Sim K CM ρ h H) (x : okP K CM W (rV K CM) ρ H σ (trimC h.length r) Q) : okP K CM W (rV K CM) ρ H σ r Q := by
  cases r with
  | bad => exact okP.trim S x
  | exc e h' => exact okP.trim (r := .exc e h') S x
  | ok d h' =>
    cases d with
    | ref k =>
      have x2 : okP K CM W (rV K CM) ρ H σ (match h'[k]? with
        | some c => if h.length ≤ k ∧ h.length ≤ h'.length ∧ lowC h.length c = true ∧ (h'.take h.length).all (lowC h.length) = true then .ok (.ref h.length) (h'.take h.length ++ [c]) else .bad
        | none => .bad) Q := x
      intro ρ' H' v e s q
      cases hk : h'[k]? with
      | none => rw [hk] at x2; exact x2.elim
      | some c =>
        rw [hk] at x2
        simp only at x2
        split at x2
        · rename_i hh
          obtain ⟨h1, h2, h3, h4⟩ := hh
          cases q with
          | ref ha =>
            rename_i a
            obtain ⟨m, e1, e2, e3⟩ := e.pre
            have hl : ρ.c.length = h.length := S.len
            have hl' : ρ'.c.length = h'.length := s.len
            have et : ρ.c = ρ'.c.take h.length := by rw [e1, ← hl]; simp
            have ham : a ∈ m := by
              have z := ha
              rw [e1, List.getElem?_append_right (by omega)] at z
              exact List.mem_of_getElem? z
            have hn : a ∉ ρ.c := fun z => by
              have nd := s.nd
              rw [e1] at nd
              exact (List.nodup_append.mp nd).2.2 _ z _ ham rfl
            have hap : a ∉ ρ'.p := fun z => (s.hid a z).1 (List.mem_of_getElem? ha)
            let ρ2 : Gh := ⟨ρ.c ++ [a], ρ.p⟩
            have ho : ∀ b, b ∉ ρ' → b ∉ ρ2 := fun b z y => by
              rcases Gh.mem.mp y with y | y
              · rcases List.mem_append.mp y with y | y
                · exact z (.inl (by rw [e1]; exact List.mem_append_left _ y))
                · simp at y
                  subst y
                  exact z (.inl (List.mem_of_getElem? ha))
              · exact z (.inr (by rw [e2]; exact y))
            have hc : ∀ i b, i < h.length → ρ'.c[i]? = some b → ρ2.c[i]? = some b := fun i b hi z => by
              show (ρ.c ++ [a])[i]? = some b
              rw [e1, List.getElem?_append_left (by omega)] at z
              rw [List.getElem?_append_left (by omega)]
              exact z
            have ex : Ext ρ H ρ2 H' := ⟨⟨[a], rfl, rfl, fun b hb => by simp at hb; subst hb; exact e3 _ ham⟩, e.kp, e.tb, e.fz⟩
            have lt : (h'.take h.length).length = h.length := by rw [List.length_take]; omega
            have S2 : Sim K CM ρ2 (h'.take h.length ++ [c]) H' := by
              refine ⟨by simp [ρ2, hl]; omega, ?_, fun b hb => ?_, fun i b c' z1 z2 => ?_, s.tab.flat ho⟩
              · refine List.nodup_append.mpr ⟨S.nd, by simp, fun b hb b' hb' => ?_⟩
                simp at hb'
                subst hb'
                intro z
                subst z
                exact hn hb
              · have hb' : b ∈ ρ'.p := by rw [e2]; exact hb
                obtain ⟨g1, g2⟩ := s.hid b hb'
                refine ⟨fun z => ?_, g2⟩
                rcases List.mem_append.mp z with z | z
                · exact g1 (by rw [e1]; exact List.mem_append_left _ z)
                · simp at z
                  subst z
                  exact hap hb'
              · have z1' : (ρ.c ++ [a])[i]? = some b := z1
                by_cases hi : i < h.length
                · rw [List.getElem?_append_left (by omega)] at z1' z2
                  rw [List.getElem?_take_of_lt hi] at z2
                  have z3 : ρ'.c[i]? = some b := by rw [e1, List.getElem?_append_left (by omega)]; exact z1'
                  have hlow : lowC h.length c' = true := List.all_eq_true.mp h4 c' (List.mem_of_getElem? (i := i) (by rw [List.getElem?_take_of_lt hi]; exact z2))
                  exact cell_more hc ho (s.cell i b c' z3 z2) hlow
                · have hi' : i = h.length := by
                    have := (List.getElem?_eq_some_iff.mp z1').1
                    simp at this
                    omega
                  subst hi'
                  rw [List.getElem?_append_right (by omega)] at z1' z2
                  simp [hl] at z1'
                  rw [lt] at z2
                  simp at z2
                  subst z1' z2
                  exact cell_more hc ho (s.cell k _ _ ha hk) h3
            refine x2 ρ2 H' _ ex S2 (.ref ?_)
            show (ρ.c ++ [a])[h.length]? = some a
            rw [List.getElem?_append_right (by omega)]
            simp [hl]
        · exact x2.elim
    | _ => exact False.elim x
end
def fnC (N : Nat) (b : DS) : DF := fun ds h => trimC h.length (fnB N b ds h)
theorem sp_trimC {K : PySem.W.Frag} {CM : CMap} {N n : Nat} {b : DS} {vs : List V} {H : Hp} {Q : VK} {E : XK} (x : spD K CM n (fnC N b) vs H Q E) : spD K CM n (fnB N b) vs H Q E := by
  obtain ⟨ρ, h, ds, S, q, hl, x⟩ := x
  exact ⟨ρ, h, ds, S, q, hl, okP.trimC S x⟩
/-- the same, as the promise alone -/
theorem def_ofG {P : Program} {w : World} {K : PySem.W.Frag} {mg : Str → Option Value} {base : Heap} {CM : CMap} {k : Nat} {f : Addr} {fd : FuncData} {N ps : List Str} {x qual : Str} {params : Arguments} {body : List Stmt} {scope : Scope} {b : DS}
    (F : FunD K x qual params body scope [] [] f fd) (hm : mg x = some (.ref f)) (S : FnScope N ps scope)
    (hbn : ∀ (kV doc pm : Value) (an : Option Addr) (cdv ct : Value) (us : List Value), us.length = ps.length → bindArgs (PySem.W.fnOf x qual params body scope .none kV doc pm an cdv ct) ⟨us, []⟩ = pure (ps.zip us))
    (hb : ∀ (cdv : Value) (A : Around) (outer : List Env) (s : Shared) (H : Hp) (E : XK), (A.deeper (envOfC qual scope s.heap.objs.size f cdv)).guards = some [] → Room k (A.deeper (envOfC qual scope s.heap.objs.size f cdv)) →
      Takes (cxOf (L2.CX P w) P w K mg base N qual scope f cdv A outer s H E) (fun c o _ H' => E c o H') →
      PSs (cxOf (L2.CX P w) P w K mg base N qual scope f cdv A outer s H E) body (tS K CM (fun c o _ H' => E c o H') b)) :
    FnG P w K mg base (k + 1) f fd ps (spD K CM ps.length (fnD N.length b)) := by
  refine FnG.imp ?_ fun _ _ _ _ => sp_trim
  refine okG F S (fun vs H Q E h => ?_) fun cdv A outer s H vs Q E hg hr h => ⟨_, hb cdv A outer s H E hg hr (takes_of rfl rfl rfl rfl), fn_start h⟩
  obtain ⟨ρ, h0, ds, S0, q, hl, _⟩ := h
  rw [q.length, hl]
theorem def_ofC {P : Program} {w : World} {K : PySem.W.Frag} {mg : Str → Option Value} {base : Heap} {CM : CMap} {k : Nat} {f : Addr} {fd : FuncData} {N ps : List Str} {x qual : Str} {params : Arguments} {body : List Stmt} {scope : Scope} {b : DS}
    (F : FunD K x qual params body scope [] [] f fd) (hm : mg x = some (.ref f)) (S : FnScope N ps scope)
    (hbn : ∀ (kV doc pm : Value) (an : Option Addr) (cdv ct : Value) (us : List Value), us.length = ps.length → bindArgs (PySem.W.fnOf x qual params body scope .none kV doc pm an cdv ct) ⟨us, []⟩ = pure (ps.zip us))
    (hb : ∀ (cdv : Value) (A : Around) (outer : List Env) (s : Shared) (H : Hp) (E : XK), (A.deeper (envOfC qual scope s.heap.objs.size f cdv)).guards = some [] → Room k (A.deeper (envOfC qual scope s.heap.objs.size f cdv)) →
      Takes (cxOf (L2.CX P w) P w K mg base N qual scope f cdv A outer s H E) (fun c o _ H' => E c o H') →
      PSs (cxOf (L2.CX P w) P w K mg base N qual scope f cdv A outer s H E) body (tS K CM (fun c o _ H' => E c o H') b)) :
    CallG P w K mg base CM (k + 1) x ps.length (fnC N.length b) := by
  refine ⟨f, fd, ps, hm, F.kp, F.bindsN hbn, rfl, FnG.imp ?_ fun _ _ _ _ => sp_trimC⟩
  refine okG F S (fun vs H Q E h => ?_) fun cdv A outer s H vs Q E hg hr h => ⟨_, hb cdv A outer s H E hg hr (takes_of rfl rfl rfl rfl), fn_start h⟩
  obtain ⟨ρ, h0, ds, S0, q, hl, _⟩ := h
  rw [q.length, hl]
end
end DL

namespace DLX
open PySem PySem.W PySem.Calls PyProof.Rows PySem.HandSPX PySem.OEX
open Builtin Builtin.ObjectAttr
/-! ### own classes over some base: own ones first, then the base's chain -/
def ownThen (tl : List Value) : List Value → Bool
  | .ref _ :: r => ownThen tl r
  | l => l == tl
theorem ownThen_split {tl : List Value} : ∀ l : List Value, ownThen tl l = true → (∃ c r, l = .ref c :: r ∧ ownThen tl r = true) ∨ l = tl
  | [], e => .inr (beq_iff_eq.mp e)
  | v :: r, e => by
    cases v with
    | ref c => exact .inl ⟨c, r, rfl, e⟩
    | _ => exact .inr (beq_iff_eq.mp e)
/-- what a base must be -/
structure BaseOk (tl : List Value) (B newId initId : String) : Prop where
  F : ExcBaseFacts B newId initId tl
  pass : ∀ self, refuseLoop self "__setattr__" tl = pure ()
  obj : tl.contains (.type "object") = true
  nil : tl ≠ []
variable {tl : List Value} {B newId initId : String}
theorem ownThen_pass (O : BaseOk tl B newId initId) (self : Value) : ∀ l : List Value, ownThen tl l = true → refuseLoop self "__setattr__" l = pure () := by
  intro l
  induction l with
  | nil =>
    intro e
    rcases ownThen_split [] e with ⟨c, r, q, _⟩ | q
    · cases q
    · exact absurd q.symm O.nil
  | cons a r ih =>
    intro e
    rcases ownThen_split (a :: r) e with ⟨c, r2, q, h⟩ | q
    · cases q
      rw [refuseLoop_ref]
      exact ih h
    · rw [q]
      exact O.pass self
theorem ownThen_has (O : BaseOk tl B newId initId) (X : String) : ∀ l : List Value, ownThen tl l = true → l.contains (.type X) = tl.contains (.type X) := by
  intro l
  induction l with
  | nil =>
    intro e
    rcases ownThen_split [] e with ⟨c, r, q, _⟩ | q
    · cases q
    · exact absurd q.symm O.nil
  | cons a r ih =>
    intro e
    rcases ownThen_split (a :: r) e with ⟨c, r2, q, h⟩ | q
    · cases q
      rw [List.contains_cons, ih h]
      rfl
    · rw [q]
theorem ownThen_full (O : BaseOk tl B newId initId) {l : List Value} (e : ownThen tl l = true) : l.isEmpty = false := by
  cases l with
  | cons _ _ => rfl
  | nil =>
    rcases ownThen_split [] e with ⟨c, r, q, _⟩ | q
    · cases q
    · exact absurd q.symm O.nil
section
variable {prog : Program} {w : World} {R : Result → Shared → Prop} {hp : Heap} {g : Array GenState} {d : Drawn} {t : Nat} {os : OsState} {A : Around}
/-- self.name = v, the first one -/
theorem put_first (O : BaseOk tl B newId initId) {K : W.Frag} {name : Str} {tk : Tok} {v : Value} {x C : Addr} {fv : Array Value} {cd : ClassData} (X : K.In hp) (hx : hp.get? x = some { cls := .ref C, data := .fields fv }) (hcd : W.clsIn K C = some cd)
    (hm : ownThen tl cd.mro = true) (hh : cd.hasDict = true) (ha : W.findIn K (.ref C) name = some none)
    (hq : ∀ h' tk' dx, (∀ b o, b ≠ x → hp.get? b = some o → h'.get? b = some o) → hp.objs.size ≤ dx → dx ≠ x → h'.get? x = some { cls := .ref C, dict := some dx, data := .fields fv } → h'.Ns1 dx (fun y => if y = name then some v else none) → R (.ok (.ret .none)) ⟨h', g, d, tk', os⟩) :
    codeAny (model prog w) A (.call (.builtin "object.__setattr__") ⟨[.ref x, .str name tk, v], []⟩) R ⟨hp, g, d, t, os⟩ := by
  have at_ : W.InstAt hp x { cls := .ref C, data := .fields fv } C none := ⟨hx, rfl, rfl, trivial⟩
  have ST := F.store_object
  have full := ownThen_full O hm
  have hasO : cd.mro.contains (.type "object") = true := (ownThen_has O "object" _ hm).trans O.obj
  have xNew : x ≠ hp.objs.size := Nat.ne_of_lt (Heap.lt_size hx)
  have isO : W.Looks (model prog w) hp (isInstance (.ref x) (.type "object")) true := at_.type.andThen (W.looks_mroIn X (by unfold W.mroIn; rw [hcd, Option.bind_some, if_neg (by rw [full]; decide), hasO]))
  refine codeAny_call_builtin ST.slot.plain ST.entry (@W.check_slot (model prog w) _ _ ⟨hp, g, d, t, os⟩ "object.__setattr__" "object" "__setattr__" (.ref x) [.str name tk, v] [] _ ST.kind ST.split isO (ST.args (.ref x) (.str name tk) v) ?_)
  have lm : W.Looks (model prog w) hp (mroOf (.ref C)) cd.mro := (W.looks_clsIn X hcd).andThen .now
  have lt : W.Looks (model prog w) hp (storeTaker? none) none := .now
  have lc : W.Looks (model prog w) hp (classData C) cd := W.looks_clsIn X hcd
  rw [W.osa_eq, refuse_eq]
  refine wpAny_bind (wpAny_bind (at_.type.at (wpAny_bind (lm.at ?_))))
  rw [ownThen_pass O _ _ hm]
  refine wpAny_pure (wpAny_bind (at_.type.at (wpAny_bind ((W.looks_findIn X ha).at (wpAny_bind (lt.at ?_))))))
  show wpAny _ _ (storeInOwnDict (.ref x) (.ref C) (.str name tk) name v false) _ _ _
  obtain ⟨c1, c2, c3, c4, c5, c6, c7, c8, c9, c10, c11⟩ := cd
  dsimp only at hh
  subst hh
  unfold storeInOwnDict ownDictForStores
  repeat (first | with_reducible refine store_in_new ?_ ?_ | with_reducible refine wpAny_loadPart_at hx ?_ | with_reducible refine lc.at ?_ | wp_step)
  · exact ⟨_, #[], _, (Heap.get?_update_ne _ _ _ _ xNew.symm).trans (Heap.get?_push_at rfl rfl), rfl, fun e he => absurd he (by simp), fun _ => rfl⟩
  · intro h' tk' hn' hs
    have hx2 : (hp.push { cls := .type "dict", data := .dict #[] }).get? x = some { cls := .ref C, data := .fields fv } := Heap.get?_push_of_some _ hx
    refine hq h' tk' hp.objs.size (fun b o hb ho => ?_) (Nat.le_refl _) xNew.symm ?_ hn'
    · exact (hs.2 b (Nat.ne_of_lt (Heap.lt_size ho))).trans ((Heap.get?_update_ne _ _ _ _ hb).trans (Heap.get?_push_of_some _ ho))
    · exact (hs.2 x xNew).trans (Heap.get?_update_self _ hx2 rfl)
/-- self.name = v, a further one -/
theorem put_more (O : BaseOk tl B newId initId) {K : W.Frag} {name : Str} {tk : Tok} {v : Value} {x C dx : Addr} {fv : Array Value} {cd : ClassData} {m0 : Str → Option Value} {nl : List Str} (X : K.In hp)
    (hx : hp.get? x = some { cls := .ref C, dict := some dx, data := .fields fv }) (hns : hp.Ns1 dx m0) (hw : Within m0 nl) (hz : nl.length ≤ 1000) (hcd : W.clsIn K C = some cd) (hm : ownThen tl cd.mro = true) (hh : cd.hasDict = true) (ha : W.findIn K (.ref C) name = some none)
    (hq : ∀ h' tk', (∀ b o, b ≠ dx → hp.get? b = some o → h'.get? b = some o) → h'.Ns1 dx (fun y => if y = name then some v else m0 y) → R (.ok (.ret .none)) ⟨h', g, d, tk', os⟩) :
    codeAny (model prog w) A (.call (.builtin "object.__setattr__") ⟨[.ref x, .str name tk, v], []⟩) R ⟨hp, g, d, t, os⟩ := by
  obtain ⟨oD, esD, epD, hoD, hdD, _⟩ := hns.count hw
  have at_ : W.InstAt hp x { cls := .ref C, dict := some dx, data := .fields fv } C (some oD) := ⟨hx, rfl, rfl, hoD⟩
  have ST := F.store_object
  have full := ownThen_full O hm
  have hasO : cd.mro.contains (.type "object") = true := (ownThen_has O "object" _ hm).trans O.obj
  have isO : W.Looks (model prog w) hp (isInstance (.ref x) (.type "object")) true := at_.type.andThen (W.looks_mroIn X (by unfold W.mroIn; rw [hcd, Option.bind_some, if_neg (by rw [full]; decide), hasO]))
  refine codeAny_call_builtin ST.slot.plain ST.entry (@W.check_slot (model prog w) _ _ ⟨hp, g, d, t, os⟩ "object.__setattr__" "object" "__setattr__" (.ref x) [.str name tk, v] [] _ ST.kind ST.split isO (ST.args (.ref x) (.str name tk) v) ?_)
  have lm : W.Looks (model prog w) hp (mroOf (.ref C)) cd.mro := (W.looks_clsIn X hcd).andThen .now
  have lt : W.Looks (model prog w) hp (storeTaker? none) none := .now
  have lc : W.Looks (model prog w) hp (classData C) cd := W.looks_clsIn X hcd
  rw [W.osa_eq, refuse_eq]
  refine wpAny_bind (wpAny_bind (at_.type.at (wpAny_bind (lm.at ?_))))
  rw [ownThen_pass O _ _ hm]
  refine wpAny_pure (wpAny_bind (at_.type.at (wpAny_bind ((W.looks_findIn X ha).at (wpAny_bind (lt.at ?_))))))
  show wpAny _ _ (storeInOwnDict (.ref x) (.ref C) (.str name tk) name v false) _ _ _
  obtain ⟨c1, c2, c3, c4, c5, c6, c7, c8, c9, c10, c11⟩ := cd
  dsimp only at hh
  subst hh
  unfold storeInOwnDict ownDictForStores
  repeat (first | with_reducible refine store_in_old hns hw hz ?_ | with_reducible refine wpAny_loadPart_at hx ?_ | with_reducible refine lc.at ?_ | wp_step)
  intro h' tk' hn' hs
  exact hq h' tk' (fun b o hb ho => (hs.2 b hb).trans ho) hn'
end
theorem base_VE : BaseOk veTail "ValueError" "ValueError.__new__" "ValueError.__init__" := ⟨F.excBase_ValueError, fun self => F.store_ValueError.passes self, by decide +kernel, by decide⟩
abbrev leTail : List Value := [.type "LookupError", .type "Exception", .type "BaseException", .type "object"]
theorem base_LE : BaseOk leTail "LookupError" "LookupError.__new__" "LookupError.__init__" := ⟨F.excBase_LookupError, fun self => F.store_LookupError.passes self, by decide +kernel, by decide⟩
end DLX
namespace DL
noncomputable section
open PySem PySem.Spec PyProof.Rows L2 DLX
/-- an own class of exceptions -/
structure XcK (K : PySem.W.Frag) (C : Addr) : Prop where
  base : ∃ tl B newId initId, BaseOk tl B newId initId ∧ PySem.W.excInitIn K C tl newId = true ∧ ∃ cd, PySem.W.clsIn K C = some cd ∧ ownThen tl cd.mro = true ∧ cd.hasDict = true
  sa : PySem.W.findIn K (.ref C) "__setattr__" = some (some (.builtin "object.__setattr__"))
  exC : PySem.W.subIn K (.ref C) (.type "BaseException") = some true
  tyC : PySem.W.typeIn K (.ref C) = some (.type "type")
  kC : PySem.W.keepIn K (.ref C) = true
section
variable {X : Cx} {pins : List (Addr × Obj)} {σ : L2.St} {H : Hp} {s : Shared} {a C dx : Addr} {f : Str} {y : V} {u : Value} {fs : List (Str × V)} {Q : Unit → Shared → Prop} {E : Value → Shared → Prop} {A : Around}
theorem first_field (T : XcK X.K C) (I : Inv X pins σ H s) (e : H a = some (exo a C none)) (hno : PySem.W.findIn X.K (.ref C) f = some none) (ry : RelV y u)
    (h : ∀ dx s', H dx = none → dx ≠ a → Inv X pins σ (upd (upd H dx (exd dx [(f, y)])) a (exo a C (some dx))) s' → Q () s') : wpAny (model X.prog X.w) A (setAttr (.ref a) f u) Q E s := by
  obtain ⟨tl, B, newId, initId, O, _, cd, hcd, hm, hh⟩ := T.base
  obtain ⟨t1, ho⟩ := exo_at I.hok e
  obtain ⟨hp, g, d, t, os⟩ := s
  refine PySem.W.set_plain I.kIn (ox := { cls := .ref C, dict := none, data := .fields #[.ref t1, .none, .none, .none, .bool false, .none] }) (od := none) ⟨ho, rfl, rfl, trivial⟩ T.sa ?_
  refine put_first O I.kIn ho hcd hm hh hno (fun h' tk' dx k dn dne hx hn => ?_)
  have free : H dx = none := I.hok.fresh dn
  have old : ∀ {b : Addr} {o : Obj}, hp.get? b = some o → b ≠ dx := fun {b o} q => Nat.ne_of_lt (Nat.lt_of_lt_of_le (Heap.lt_size q) dn)
  have oth : ∀ {b : Addr}, H b = none → b ≠ a := fun {b} n z => by rw [z, e] at n; cases n
  have moved : Un X.fs [] H (upd (upd H dx (exd dx [(f, y)])) a (exo a C (some dx))) hp h' := {
    keep := fun b o q n _ _ => k b o (oth n) q
    slot := fun b o q n _ _ => ⟨o.slots, k b o (oth n) q⟩
    free := fun b o q n _ => by rw [upd_ne (oth n), upd_ne (old q)]; exact n
    there := fun b o q _ => by
      by_cases hb : b = a
      · subst hb; exact ⟨_, hx⟩
      · exact ⟨o, k b o hb q⟩
    tups := fun b xs q => by rw [upd_ne (at_ne e q exo_tup), upd_ne (ne_of_none q free)]; exact q
    frzs := fun b o v q => by rw [upd_ne (at_ne e q exo_frz), upd_ne (ne_of_none q free)]; exact q
    tbls := fun b ps q => ⟨#[], by rw [upd_ne (at_ne e q exo_tbl), upd_ne (ne_of_none q free), q]; simp⟩ }
  refine h dx _ free dne (I.un (t' := tk') moved fun b o q => ?_)
  by_cases hb : b = a
  · subst hb
    rw [upd_same] at q
    cases q
    exact exo_ok hx
  rw [upd_ne hb] at q
  by_cases hd : b = dx
  · subst hd
    rw [upd_same] at q
    cases q
    exact exd_ok hn (relO_put (fs := []) ry fun g => True.intro)
  rw [upd_ne hd] at q
  refine (I.hok b o q).stay (fun c v hc z => k c v ?_ z) (fun c hc => ?_) (fun c xs hc => ?_)
  · rcases hc with hc | hc
    · rw [hc]; exact hb
    · exact at_ne e hc exo_own
  · rw [upd_ne (at_ne e hc exo_own), upd_ne (ne_of_none hc free)]; exact hc
  · rw [upd_ne (at_ne e hc exo_tup), upd_ne (ne_of_none hc free)]; exact hc
theorem more_field (T : XcK X.K C) (I : Inv X pins σ H s) (e : H a = some (exo a C (some dx))) (ed : H dx = some (exd dx fs)) (hl : fs.length ≤ 900) (hno : PySem.W.findIn X.K (.ref C) f = some none) (ry : RelV y u)
    (h : ∀ s', Inv X pins σ (upd H dx (exd dx ((f, y) :: fs))) s' → Q () s') : wpAny (model X.prog X.w) A (setAttr (.ref a) f u) Q E s := by
  obtain ⟨tl, B, newId, initId, O, _, cd, hcd, hm, hh⟩ := T.base
  obtain ⟨t1, ho⟩ := exo_at I.hok e
  obtain ⟨mA, hns, rel⟩ := exd_at I.hok ed
  have win := within_of rel
  obtain ⟨hp, g, d, t, os⟩ := s
  obtain ⟨oD, _, _, hoD, _, _⟩ := hns.count win
  refine PySem.W.set_plain I.kIn (ox := { cls := .ref C, dict := some dx, data := .fields #[.ref t1, .none, .none, .none, .bool false, .none] }) (od := some oD) ⟨ho, rfl, rfl, hoD⟩ T.sa ?_
  refine put_more O I.kIn ho hns win (by rw [List.length_map]; omega) hcd hm hh hno (fun h' tk' k hn => ?_)
  have there : ∃ o, h'.get? dx = some o := by obtain ⟨o, _, _, e', _⟩ := hn; exact ⟨o, e'⟩
  exact h _ (I.write (t' := tk') (x := dx) (e := dx) (o := exd dx ((f, y) :: fs)) (by rw [ed]; exact True.intro) (.inl rfl) k there (exd_ok hn (relO_put ry rel)))
end
/-- self.f = e, self an exception that is being made -/
def tXst (K : PySem.W.Frag) (f : Str) (to te : TE) : TS := fun Dn σ H => te σ H fun y H1 => to σ H1 fun x H2 => ∃ a C : Addr, x = .ref a ∧ XcK K C ∧ PySem.W.findIn K (.ref C) f = some none ∧
  ((H2 a = some (exo a C none) ∧ ∀ dx, H2 dx = none → dx ≠ a → Dn.nx σ (upd (upd H2 dx (exd dx [(f, y)])) a (exo a C (some dx)))) ∨
    ∃ (dx : Addr) (fs : List (Str × V)), H2 a = some (exo a C (some dx)) ∧ H2 dx = some (exd dx fs) ∧ fs.length ≤ 900 ∧ Dn.nx σ (upd H2 dx (exd dx ((f, y) :: fs))))
theorem ps_xst {X : Cx} {o e : Expr} {to te : TE} {f : Str} {p' pos : Pos} (ho : PE X o to) (he : PE X e te) (hs : swapsWith e (some (.Attribute o f p')) pos.line X.env = pure false := by rfl) : PS X (.Assign [.Attribute o f p'] e pos) (tXst X.K f to te) := by
  refine ⟨fun pins s σ H Dn I h => plainObj_wpAny_Assign_Attribute (thn (he.run pins s σ H _ I h) fun v s1 ⟨y, H1, I1, r1, q1⟩ => thn (ho.run pins s1 σ H1 _ I1 q1) fun u s2 ⟨x, H2, I2, r2, a, C, ex, T, hno, q⟩ => ?_) hs⟩
  subst ex
  cases (show u = Value.ref a from r2)
  rcases q with ⟨ea, q⟩ | ⟨dx, fs, ea, ed, hl, q⟩
  · exact first_field T I2 ea hno r1 fun dx s' n ne J => ⟨σ, _, J, q dx n ne⟩
  · exact more_field T I2 ea ed hl hno r1 fun s' J => ⟨σ, _, J, q⟩
section
variable {X : Cx} {e : Expr} {es : List Expr} {ta : TA} {p pos : Pos}
end
end
end DL

namespace DL
noncomputable section
open PySem PySem.Spec PyProof.Rows L2 DLX

/-! ### try with several clauses, some with a name -/
structure Cl where
  c : Value
  i : Option Nat
  ts : Addr → Value → Option Addr → TS
abbrev SuiteOk (X : Cx) (ss : List Stmt) (ts : Addr → Value → Option Addr → TS) : Prop :=
  ∀ (a : Addr) (oe : Obj) (cls : Value) (d : Option Addr) (pn : List (Addr × Obj)), Zc cls d oe → (∃ vs, oe.data = .fields vs) → PSs (X.suite a ((a, oe) :: pn)) ss (ts a cls d)
inductive Clauses (X : Cx) : List ExceptHandler → List Cl → Prop
  | nil : Clauses X [] []
  | bare {x : Str} {c : Value} {ts : Addr → Value → Option Addr → TS} {b₀ : Stmt} {ss : List Stmt} {np p' : Pos} {hds : List ExceptHandler} {l : List Cl} (hc : Names X x c) (hsu : SuiteOk X (b₀ :: ss) ts) (r : Clauses X hds l) :
      Clauses X (.ExceptHandler (some (.Name x np)) none (b₀ :: ss) p' :: hds) (⟨c, none, ts⟩ :: l)
  | named {x n : Str} {i : Nat} {c : Value} {ts : Addr → Value → Option Addr → TS} {b₀ : Stmt} {ss : List Stmt} {np p' : Pos} {hds : List ExceptHandler} {l : List Cl} (hN : X.N.Nodup) (hi : X.N[i]? = some n) (hln : X.env.kindOf n = some .local) (hc : Names X x c)
      (hsu : SuiteOk X (b₀ :: ss) ts) (r : Clauses X hds l) : Clauses X (.ExceptHandler (some (.Name x np)) (some n) (b₀ :: ss) p' :: hds) (⟨c, some i, ts⟩ :: l)
section
variable {X : Cx} {body : List Stmt} {h₀ : ExceptHandler} {hds : List ExceptHandler} {l : List Cl} {pos : Pos} {tb : WX → TS} {Wout : WX}
end
end
end DL

namespace DL
noncomputable section
open PySem PySem.Spec PyProof.Rows L2 DLX
variable {X : Cx} {CM : CMap} {W : WX} {pos : Pos}

/-! ### an error is made: C(e, ..), the fields by __init__ -/
def spX (C : Addr) (fs : List Str) : Sp := fun vs H Q _ => ∃ a ys, vs = .ref a :: ys ∧ ys.length = fs.length ∧ H a = some (exo a C none) ∧
  ∀ dx, H dx = none → dx ≠ a → Q .non (upd (upd H dx (exd dx (fs.zip ys).reverse)) a (exo a C (some dx)))
theorem spX_len {C : Addr} {fs : List Str} {n : Nat} (hn : n = fs.length + 1) : ∀ vs H Q E, spX C fs vs H Q E → vs.length = n := by
  rintro vs H Q E ⟨a, ys, rfl, hl, _⟩
  rw [List.length_cons, hl, hn]
theorem initx1 {K : PySem.W.Frag} {C : Addr} {f : Str} {N : List Str} {vs : List V} {H : Hp} {Q : VK} {E : XK} (T : XcK K C) (hno : PySem.W.findIn K (.ref C) f = some none) (h : spX C [f] vs H Q E) :
    tXst K f (tVar 0) (tVar 1) { nx := fun _ H' => Q .non H', rt := Q } (start N vs) H := by
  obtain ⟨a, ys, rfl, hl, ea, k⟩ := h
  match ys, hl with
  | [y], _ => exact ⟨_, rfl, _, rfl, a, C, rfl, T, hno, .inl ⟨ea, fun dx n ne => k dx n ne⟩⟩
theorem initx2 {K : PySem.W.Frag} {C : Addr} {f g : Str} {N : List Str} {vs : List V} {H : Hp} {Q : VK} {E : XK} (T : XcK K C) (hf : PySem.W.findIn K (.ref C) f = some none) (hg : PySem.W.findIn K (.ref C) g = some none) (h : spX C [f, g] vs H Q E) :
    tSeq (tXst K f (tVar 0) (tVar 1)) (tXst K g (tVar 0) (tVar 2)) { nx := fun _ H' => Q .non H', rt := Q } (start N vs) H := by
  obtain ⟨a, ys, rfl, hl, ea, k⟩ := h
  match ys, hl with
  | [y, z], _ =>
    refine ⟨_, rfl, _, rfl, a, C, rfl, T, hf, .inl ⟨ea, fun dx n ne => ?_⟩⟩
    refine ⟨_, rfl, _, rfl, a, C, rfl, T, hg, .inr ⟨dx, _, upd_same, by rw [upd_ne ne, upd_same], (by show 1 ≤ 900; decide), ?_⟩⟩
    have e : upd (upd (upd H dx (exd dx [(f, y)])) a (exo a C (some dx))) dx (exd dx [(g, z), (f, y)]) = upd (upd H dx (exd dx [(g, z), (f, y)])) a (exo a C (some dx)) := by
      funext b
      by_cases hb : b = dx
      · subst hb; rw [upd_same, upd_ne ne, upd_same]
      · by_cases ha : b = a
        · subst ha; rw [upd_ne hb, upd_same, upd_same]
        · rw [upd_ne hb, upd_ne ha, upd_ne hb, upd_ne ha, upd_ne hb]
    show Q .non _
    rw [e]
    exact k dx n ne
def sRaise (c : Nat) (fs : List Str) (das : DEs) : DS := fun env h => liftS (das env h) env fun xs h1 => if xs.length = fs.length ∧ xs.length ≤ 1000 then .exc (.obj c (fs.zip xs).reverse) env h1 else .bad
theorem zip_names {α : Type} : ∀ {ks : List Str} {ds : List α}, ds.length = ks.length → (ks.zip ds).reverse.map (·.1) = ks.reverse := fun {ks ds} e => by rw [List.map_reverse, zip_fst e]
theorem zip_vals {α : Type} : ∀ {ks : List Str} {ds : List α}, ds.length = ks.length → (ks.zip ds).reverse.map (·.2) = ds.reverse := fun {ks ds} e => by rw [List.map_reverse, zip_snd e]
theorem passesF {P : Program} {w : World} {X : Cx} : Passes (L2.CX P w) X (fun _ _ _ => False) := fun _ _ _ _ _ _ _ ⟨_, _, _, _, _, _, _, _, _, _, _, _, z⟩ => z.elim
/-- a class of errors that has an __init__ -/
structure XcI (P : Program) (w : World) (K : PySem.W.Frag) (CM : CMap) (mg : Str → Option Value) (base : Heap) (x : Str) (c : Nat) (fs : List Str) : Prop where
  ex : ∃ C fI fd ps, CM.c c C ∧ mg x = some (.ref C) ∧ XcK K C ∧ PySem.W.findIn K (.ref C) "__init__" = some (some (.ref fI)) ∧ PySem.W.typeIn K (.ref fI) = some (.type "function") ∧ Binds K fd ps [] ∧ FnOk P w K mg base (L2.CX P w) 1 fI fd ps (spX C fs)
/-- an error without fields -/
structure Xc0 (K : PySem.W.Frag) (CM : CMap) (mg : Str → Option Value) (x : Str) (c : Nat) : Prop where
  ex : ∃ C tl B newId initId, CM.c c C ∧ mg x = some (.ref C) ∧ BaseOk tl B newId initId ∧ PySem.W.excIn K C tl newId = true ∧ PySem.W.subIn K (.ref C) (.type "BaseException") = some true ∧ PySem.W.typeIn K (.ref C) = some (.type "type") ∧ PySem.W.keepIn K (.ref C) = true
def sRaise0 (c : Nat) : DS := fun env h => .exc (.obj c []) env h
/-! ### the error at hand -/
def CMap.at_ (CM : CMap) (a : Addr) (cls : Value) (d : Option Addr) : CMap := ⟨CM.c, fun a' C' d' => CM.e a' C' d' ∨ (a' = a ∧ cls = .ref C' ∧ d' = d), CM.t, CM.pw, CM.fx, CM.cv, CM.cd⟩
section
variable {K : PySem.W.Frag} {CM' : CMap} {ρ : Gh} {h : List Cell} {H : Hp} {σ : L2.St} {env : En}
mutual
theorem den_un {n : Nat} (hc : ∀ c C, CM'.c c C → CM.c c C) : ∀ {v : V} {d : D}, Den K CM' ρ H v d → low n d = true → Den K CM ρ H v d
  | _, _, .non, _ => .non
  | _, _, .bl b, _ => .bl b
  | _, _, .int i, _ => .int i
  | _, _, .str s, _ => .str s
  | _, _, .tup h t, q => .tup h (denL_un hc t q)
  | _, _, .lst h t, q => .lst h (denL_un hc t q)
  | _, _, .dic h m k t, q => .dic h m k (denL_un hc t (lowK_L q))
  | _, _, .obj k h o m t, q => .obj (hc _ _ k) h o m (denL_un hc t (lowF_L q))
  | _, _, .ref h, _ => .ref h
  | _, _, .err0 _ _, q => by cases q
  | _, _, .err _ _ _ _ _, q => by cases q
  | _, _, .xo k h m t, q => .xo (hc _ _ k) h m (denL_un hc t (lowF_L q))
theorem denL_un {n : Nat} (hc : ∀ c C, CM'.c c C → CM.c c C) : ∀ {vs : List V} {ds : List D}, DenL K CM' ρ H vs ds → lowL n ds = true → DenL K CM ρ H vs ds
  | _, _, .nil, _ => .nil
  | _, _, .cons h t, q => .cons (den_un hc h (Bool.and_eq_true_iff.mp q).1) (denL_un hc t (Bool.and_eq_true_iff.mp q).2)
end
theorem cell_un {n : Nat} (hc : ∀ c C, CM'.c c C → CM.c c C) (hq : CM.pw = CM'.pw) {a : Addr} {c : Cell} (ok : CellOk K CM' ρ H a c) (q : lowC n c = true) : CellOk K CM ρ H a c := by
  cases c with
  | lst ds => obtain ⟨vs, e, t⟩ := ok; exact ⟨vs, e, denL_un hc t q⟩
  | dic kvs => obtain ⟨vs, e, m, t⟩ := ok; exact ⟨vs, e, m, denL_un hc t (lowK_L q)⟩
  | obj c fs => obtain ⟨C, dx, vs, g, e, m, t⟩ := ok; exact ⟨C, dx, vs, hc _ _ g, e, m, denL_un hc t (lowF_L q)⟩
  | dkl kvs => obtain ⟨o, vs, e, m, t⟩ := ok; exact ⟨o, vs, e, m, denL_un hc t (lowK_L q)⟩
  | dt kvs => obtain ⟨vs, ⟨P, w, g, e⟩, m, t⟩ := ok; exact ⟨vs, ⟨P, w, by rw [hq]; exact g, e⟩, m, denL_un hc t q⟩
  | dtl kvs => obtain ⟨o, vs, ⟨P, w, g, e⟩, m, t⟩ := ok; exact ⟨o, vs, ⟨P, w, by rw [hq]; exact g, e⟩, m, denL_un hc t q⟩
theorem TabsX.un (T : TabsX K CM' ρ H) (hc : ∀ c C, CM'.c c C → CM.c c C) (ht : CM.t = CM'.t) (h1 : CM.fx = CM'.fx) (h2 : CM.cv = CM'.cv) (h3 : CM.cd = CM'.cd) : TabsX K CM ρ H := ⟨by rw [ht]; exact T.tb, by rw [h1]; exact T.fx, by rw [h2, h3]; exact denL_un hc T.cap T.lo, by rw [h3]; exact T.lo⟩
theorem Sim.un {n : Nat} (S : Sim K CM' ρ h H) (hc : ∀ c C, CM'.c c C → CM.c c C) (q : h.all (lowC n) = true) (ht : CM.t = CM'.t := by rfl) (hq : CM.pw = CM'.pw := by rfl) (h1 : CM.fx = CM'.fx := by rfl) (h2 : CM.cv = CM'.cv := by rfl) (h3 : CM.cd = CM'.cd := by rfl) : Sim K CM ρ h H :=
  ⟨S.len, S.nd, S.hid, fun m a c e1 e2 => cell_un hc hq (S.cell m a c e1 e2) (List.all_eq_true.mp q c (List.mem_of_getElem? e2)), S.tab.un hc ht h1 h2 h3⟩
def lowE (n : Nat) (env : En) : Bool := env.all fun o => match o with
  | some d => low n d
  | none => true
theorem EnvOk.un {n : Nat} (S : EnvOk K CM' ρ H σ env) (hc : ∀ c C, CM'.c c C → CM.c c C) (q : lowE n env = true) : EnvOk K CM ρ H σ env := ⟨S.1, fun i d e => by
  obtain ⟨v, a, b⟩ := S.2 i d e
  exact ⟨v, a, den_un hc b (List.all_eq_true.mp q (some d) (List.mem_of_getElem? e))⟩⟩
end
/-- a clause: what it catches, the slot of its name, its suite -/
structure HD where
  ks : List Nat
  i : Option Nat
  s : DS
def pickH (c : Nat) : List HD → Option HD
  | [] => none
  | q :: r => if q.ks.contains c = true then some q else pickH c r
def nameE (i : Option Nat) (d : D) (env : En) : En := match i with
  | none => env
  | some i => env.set i (some d)
def goneN (i : Option Nat) (env : En) : En := match i with
  | none => env
  | some i => env.set i none
def unE (i : Option Nat) : SR → SR
  | .nx env h => if lowE h.length (goneN i env) = true ∧ h.all (lowC h.length) = true then .nx (goneN i env) h else .bad
  | .rt d h => if low h.length d = true ∧ h.all (lowC h.length) = true then .rt d h else .bad
  | .bk env h => if lowE h.length (goneN i env) = true ∧ h.all (lowC h.length) = true then .bk (goneN i env) h else .bad
  | .ct env h => if lowE h.length (goneN i env) = true ∧ h.all (lowC h.length) = true then .ct (goneN i env) h else .bad
  | _ => .bad
def catch_ (hs : List HD) : SR → SR
  | .exc (.obj c fs) env h => if c < 1000 then .bad else match pickH c hs with
    | some q => unE q.i (q.s (nameE q.i (.err c fs) env) h)
    | none => .exc (.obj c fs) env h
  | .exc _ _ _ => .bad
  | r => r
def sTry (b : DS) (hs : List HD) : DS := fun env h => catch_ hs (b env h)
/-- the clauses of the text, with the table of what they catch -/
inductive HsOk (K : PySem.W.Frag) (CM : CMap) : List Cl → List HD → Prop
  | nil : HsOk K CM [] []
  | cons {c : Value} {i : Option Nat} {ks : List Nat} {s : DS} {l : List Cl} {hs : List HD} (h : ∀ c' C, CM.c c' C → 1000 ≤ c' → PySem.W.exmOne K (.ref C) c = some (ks.contains c')) (r : HsOk K CM l hs) :
      HsOk K CM (⟨c, i, fun a cls d => tS K (CM.at_ a cls d) WF s⟩ :: l) (⟨ks, i, s⟩ :: hs)
section
variable {K : PySem.W.Frag} {ρ : Gh} {H : Hp} {σ : L2.St} {env : En} {h : List Cell} {Dn : Ends} {i : Option Nat} {r : SR}
end
/-! ### in a suite: error.f, isinstance(error, C) -/
def cErrF (f : Str) (d : DE) : DE := fun env h => (d env h).bind fun x h1 => match x with
  | .err c fs => (match fs.lookup f with
    | some v => if c < 1000 then .bad else .ok v h1
    | none => .bad)
  | _ => .bad
def cErrIs (ks : List Nat) (d : DE) : DE := fun env h => (d env h).bind fun x h1 => match x with
  | .err c _ => if c < 1000 then .bad else .ok (.bl (ks.contains c)) h1
  | _ => .bad
theorem lookup_den {K : PySem.W.Frag} {ρ : Gh} {H : Hp} {f : Str} {v : D} : ∀ {fs : List (Str × V)} {dfs : List (Str × D)}, fs.map (·.1) = dfs.map (·.1) → DenL K CM ρ H (fs.map (·.2)) (dfs.map (·.2)) → dfs.lookup f = some v → ∃ u, fs.lookup f = some u ∧ Den K CM ρ H u v
  | [], [], _, _, e => by cases e
  | [], _ :: _, h, _, _ => by cases h
  | _ :: _, [], h, _, _ => by cases h
  | (k, u) :: fs, (k2, w) :: dfs, h, t, e => by
    injection h with h1 h2
    have h1' : k = k2 := h1
    subst h1'
    cases t with
    | cons a b =>
      have e' : (match f == k with | true => some w | false => dfs.lookup f) = some v := e
      show ∃ u', (match f == k with | true => some u | false => fs.lookup f) = some u' ∧ _
      cases hk : (f == k) with
      | true =>
        rw [hk] at e'
        cases e'
        exact ⟨u, rfl, a⟩
      | false =>
        rw [hk] at e'
        exact lookup_den h2 b e'
/-- what is said of the classes of errors -/
structure ErrAll (K : PySem.W.Frag) (CM : CMap) (fs : List Str) : Prop where
  no : ∀ a C d, ¬ CM.e a C d
  xf : ∀ c C, CM.c c C → 1000 ≤ c → XfC K C ∧ ExcC K C
  nof : ∀ c C f, CM.c c C → 1000 ≤ c → f ∈ fs → PySem.W.findIn K (.ref C) f = some none
theorem kitx_err {K : PySem.W.Frag} {x C : Addr} {ox : Obj} {od : Option Obj} (T : ExcC K C) : PySem.W.KitX K (.ref x) (.ref C) (fun h => PySem.W.InstAt h x ox C od) where
  ty := fun _ _ _ I => I.type
  it := fun _ _ X _ => by
    obtain ⟨cd, hcd, _⟩ := PySem.W.any_some T.hd
    unfold PySem.W.clsIn at hcd
    split at hcd
    · rename_i c' d' cd' sl' ho
      intro A' Q' E' s' k q
      unfold isType loadHead
      exact wpAny_bind (wpAny_loadPart (k _ _ (X _ _ ho)) (wpAny_pure q))
    · cases hcd
  ne := fun h tp dd its n sl X htp => by
    obtain ⟨cd, hcd, _⟩ := PySem.W.any_some T.hd
    refine Bool.eq_false_iff.mpr fun q => ?_
    cases Value.ref.inj (beq_iff_eq.mp q)
    unfold PySem.W.clsIn at hcd
    split at hcd
    · rename_i c' d' cd' sl' ho
      cases (X _ _ ho).symm.trans htp
    · cases hcd
  ca := fun X I k => PySem.W.kx_classE X I T.hg T.hk T.hs (PySem.W.findObj_dataE (by obtain ⟨cd, hcd, _⟩ := PySem.W.any_some T.hd; rw [hcd]; rfl) T.ha T.hn T.ht) T.hm k
end
end DL

namespace DL
noncomputable section
open PySem PySem.Spec PyProof.Rows L2 DLX He
variable {tt : List (Addr × Str)} {pw : Program → World → Prop} {fx7 : List (Addr × HO)} {cv7 : List V} {cd7 : List D}
/-! ### facts of the classes, told by the head -/
def tblC (K : PySem.W.Frag) (tbl : List (Nat × Str)) (tt : List (Addr × Str)) (pw : Program → World → Prop) (fx : List (Addr × HO) := []) (cv : List V := []) (cd : List D := []) : CMap := ⟨fun c C => ∃ p ∈ tbl, p.1 = c ∧ C = ga K p.2, fun _ _ _ => False, tt, pw, fx, cv, cd⟩
/-- this program, this world -/
def pwO (P : Program) (w : World) : Program → World → Prop := fun P2 w2 => P2 = P ∧ w2 = w
theorem tblC.mem {K : PySem.W.Frag} {tbl : List (Nat × Str)} {c : Nat} {x : Str} (i : Nat) (h : tbl[i]? = some (c, x) := by rfl) : (tblC K tbl tt pw fx7 cv7 cd7).c c (ga K x) := ⟨_, List.mem_of_getElem? h, rfl, rfl⟩
def excCB (K : PySem.W.Frag) (C : Addr) : Bool := decide (PySem.W.findIn K (.ref C) "__class__" = some (some (.builtin "object.__class__"))) && (decide (PySem.W.specialIn K (.builtin "object.__class__") "__get__" = some (some (.builtin "getset_descriptor.__get__"))) &&
  (decide (PySem.W.takesIn K (.builtin "object.__class__") = some true) && decide (PySem.W.mroIn K C (.type "object") = some true)))
def errB (K : PySem.W.Frag) (tbl : List (Nat × Str)) (fs : List Str) : Bool := tbl.all fun p => decide (p.1 < 1000) || (xfB K (ga K p.2) && (excCB K (ga K p.2) && fs.all fun f => decide (PySem.W.findIn K (.ref (ga K p.2)) f = some none)))
theorem errB_ok {K : PySem.W.Frag} {tbl : List (Nat × Str)} {fs : List Str} (h : errB K tbl fs = true) : ErrAll K (tblC K tbl tt pw fx7 cv7 cd7) fs := by
  have key : ∀ c C, (tblC K tbl tt pw fx7 cv7 cd7).c c C → 1000 ≤ c → XfC K C ∧ ExcC K C ∧ ∀ f ∈ fs, PySem.W.findIn K (.ref C) f = some none := by
    rintro c C ⟨p, hp, rfl, rfl⟩ hc
    have := List.all_eq_true.mp h p hp
    rcases Bool.or_eq_true_iff.mp this with q | q
    · exact absurd (of_decide_eq_true q) (by omega)
    · obtain ⟨q1, q⟩ := ba q
      obtain ⟨q2, q3⟩ := ba q
      obtain ⟨r1, r⟩ := ba q2
      obtain ⟨r2, r⟩ := ba r
      obtain ⟨r3, r4⟩ := ba r
      have x := xfB_ok q1
      exact ⟨x, ⟨x.ga, x.gg, x.exC, x.hdC, of_decide_eq_true r1, of_decide_eq_true r2, of_decide_eq_true r3, of_decide_eq_true r4⟩, fun f hf => of_decide_eq_true (List.all_eq_true.mp q3 f hf)⟩
  exact ⟨fun _ _ _ z => z, fun c C h1 h2 => ⟨(key c C h1 h2).1, (key c C h1 h2).2.1⟩, fun c C f h1 h2 h3 => (key c C h1 h2).2.2 f h3⟩
def tlOf : Bool → List Value
  | true => leTail
  | false => HandSPX.veTail
def newOf : Bool → String
  | true => "LookupError.__new__"
  | false => "ValueError.__new__"
theorem baseOf (b : Bool) : ∃ B initId, BaseOk (tlOf b) B (newOf b) initId := by
  cases b with
  | true => exact ⟨_, _, base_LE⟩
  | false => exact ⟨_, _, base_VE⟩
def xckB (K : PySem.W.Frag) (C : Addr) (b : Bool) : Bool := PySem.W.excInitIn K C (tlOf b) (newOf b) && (((PySem.W.clsIn K C).any fun cd => ownThen (tlOf b) cd.mro && cd.hasDict) && (decide (PySem.W.findIn K (.ref C) "__setattr__" = some (some (.builtin "object.__setattr__"))) &&
  (decide (PySem.W.subIn K (.ref C) (.type "BaseException") = some true) && (decide (PySem.W.typeIn K (.ref C) = some (.type "type")) && PySem.W.keepIn K (.ref C)))))
theorem xckB_ok {K : PySem.W.Frag} {C : Addr} {b : Bool} (h : xckB K C b = true) : XcK K C := by
  obtain ⟨h1, h⟩ := ba h
  obtain ⟨h2, h⟩ := ba h
  obtain ⟨h3, h⟩ := ba h
  obtain ⟨h4, h⟩ := ba h
  obtain ⟨h5, h6⟩ := ba h
  obtain ⟨B, initId, O⟩ := baseOf b
  obtain ⟨cd, hcd, q⟩ := PySem.W.any_some h2
  obtain ⟨q1, q2⟩ := ba q
  exact ⟨⟨_, _, _, _, O, h1, cd, hcd, q1, q2⟩, of_decide_eq_true h3, of_decide_eq_true h4, of_decide_eq_true h5, h6⟩
def xc0B (K : PySem.W.Frag) (C : Addr) (b : Bool) : Bool := PySem.W.excIn K C (tlOf b) (newOf b) && (decide (PySem.W.subIn K (.ref C) (.type "BaseException") = some true) && (decide (PySem.W.typeIn K (.ref C) = some (.type "type")) && PySem.W.keepIn K (.ref C)))
theorem xc0B_ok {K : PySem.W.Frag} {CM : CMap} {mg : Str → Option Value} {x : Str} {C : Addr} {c : Nat} {b : Bool} (h : xc0B K C b = true) (hc : CM.c c C) (hm : mg x = some (.ref C)) : Xc0 K CM mg x c := by
  obtain ⟨h1, h⟩ := ba h
  obtain ⟨h2, h⟩ := ba h
  obtain ⟨h3, h4⟩ := ba h
  obtain ⟨B, initId, O⟩ := baseOf b
  exact ⟨C, _, _, _, _, hc, hm, O, h1, of_decide_eq_true h2, of_decide_eq_true h3, h4⟩
/-- a class of errors with an __init__ -/
structure XcJ (K : PySem.W.Frag) (CM : CMap) (mg : Str → Option Value) (x : Str) (c : Nat) (q : Str) (st : Stmt) (fs : List Str) : Prop where
  ex : ∃ C fI fd, CM.c c C ∧ mg x = some (.ref C) ∧ XcK K C ∧ PySem.W.findIn K (.ref C) "__init__" = some (some (.ref fI)) ∧ PySem.W.typeIn K (.ref fI) = some (.type "function") ∧ FunD K "__init__" q (defArgs st) (defBody st) (defScope st) [] [] fI fd ∧
    ∀ f ∈ fs, PySem.W.findIn K (.ref C) f = some none
def xcjB (K : PySem.W.Frag) (C : Addr) (b : Bool) (fs : List Str) : Bool := xckB K C b && (decide (PySem.W.findIn K (.ref C) "__init__" = some (some (.ref (ma K C "__init__")))) && (decide (PySem.W.typeIn K (.ref (ma K C "__init__")) = some (.type "function")) && fs.all fun f => decide (PySem.W.findIn K (.ref C) f = some none)))
theorem xcjB_ok {K : PySem.W.Frag} {CM : CMap} {mg : Str → Option Value} {x q : Str} {C : Addr} {c : Nat} {b : Bool} {fs : List Str} {st : Stmt} (h : xcjB K C b fs = true) (hc : CM.c c C) (hm : mg x = some (.ref C))
    (hf : ∃ fd, FunD K "__init__" q (defArgs st) (defBody st) (defScope st) [] [] (ma K C "__init__") fd) : XcJ K CM mg x c q st fs := by
  obtain ⟨h1, h⟩ := ba h
  obtain ⟨h2, h⟩ := ba h
  obtain ⟨h3, h4⟩ := ba h
  obtain ⟨fd, F⟩ := hf
  exact ⟨C, _, fd, hc, hm, xckB_ok h1, of_decide_eq_true h2, of_decide_eq_true h3, F, fun f hf => of_decide_eq_true (List.all_eq_true.mp h4 f hf)⟩
section
variable {P : Program} {w : World} {K : PySem.W.Frag} {CM : CMap} {mg : Str → Option Value} {base : Heap} {x q : Str} {c : Nat} {st : Stmt} {N ps : List Str}
theorem xci1 {f : Str} (J : XcJ K CM mg x c q st [f]) (S : FnScope N ps (defScope st)) (hps : ps.length = 2)
    (hbn : ∀ (kV doc pm : Value) (an : Option Addr) (cdv ct : Value) (us : List Value), us.length = ps.length → bindArgs (PySem.W.fnOf "__init__" q (defArgs st) (defBody st) (defScope st) .none kV doc pm an cdv ct) ⟨us, []⟩ = pure (ps.zip us))
    (hb : ∀ (fI : Addr) (cdv : Value) (A : Around) (outer : List Env) (s : Shared) (H : Hp) (E : XK), PSs (cxOf (L2.CX P w) P w K mg base N q (defScope st) fI cdv A outer s H E) (defBody st) (tXst K f (tVar 0) (tVar 1))) : XcI P w K CM mg base x c [f] := by
  obtain ⟨C, fI, fd, h1, h2, h3, h4, h5, F, h6⟩ := J.ex
  exact ⟨C, fI, fd, ps, h1, h2, h3, h4, h5, F.bindsN hbn, F.ok S (spX_len hps) fun cdv A outer s H vs Q E hr h => ⟨_, hb fI cdv A outer s H E, initx1 h3 (h6 f (by simp)) h⟩⟩
theorem xci2 {f g : Str} (J : XcJ K CM mg x c q st [f, g]) (S : FnScope N ps (defScope st)) (hps : ps.length = 3)
    (hbn : ∀ (kV doc pm : Value) (an : Option Addr) (cdv ct : Value) (us : List Value), us.length = ps.length → bindArgs (PySem.W.fnOf "__init__" q (defArgs st) (defBody st) (defScope st) .none kV doc pm an cdv ct) ⟨us, []⟩ = pure (ps.zip us))
    (hb : ∀ (fI : Addr) (cdv : Value) (A : Around) (outer : List Env) (s : Shared) (H : Hp) (E : XK), PSs (cxOf (L2.CX P w) P w K mg base N q (defScope st) fI cdv A outer s H E) (defBody st) (tSeq (tXst K f (tVar 0) (tVar 1)) (tXst K g (tVar 0) (tVar 2)))) : XcI P w K CM mg base x c [f, g] := by
  obtain ⟨C, fI, fd, h1, h2, h3, h4, h5, F, h6⟩ := J.ex
  exact ⟨C, fI, fd, ps, h1, h2, h3, h4, h5, F.bindsN hbn, F.ok S (spX_len hps) fun cdv A outer s H vs Q E hr h => ⟨_, hb fI cdv A outer s H E, initx2 h3 (h6 f (by simp)) (h6 g (by simp)) h⟩⟩
end
/-- what an except clause catches -/
structure HxD (K : PySem.W.Frag) (CM : CMap) (mg : Str → Option Value) (x : Str) (cv : Value) (ks : List Nat) : Prop where
  nm : mg x = some cv ∨ (mg x = none ∧ bootBuiltins x = some cv ∧ x ≠ "__name__")
  ex : ∀ c C, CM.c c C → 1000 ≤ c → PySem.W.exmOne K (.ref C) cv = some (ks.contains c)
theorem HxD.names {X : Cx} {x : Str} {cv : Value} {ks : List Nat} {CM : CMap} (h : HxD X.K CM X.mg x cv ks) (hg : Gl X x) (hd : (x == ("__debug__" : Str)) = false := by decide) : Names X x cv := ⟨hg, hd, h.nm⟩
/-- what isinstance tells of an error -/
structure HiD (K : PySem.W.Frag) (CM : CMap) (cv : Value) (ks : List Nat) : Prop where
  ex : ∀ c C, CM.c c C → 1000 ≤ c → PySem.W.kitOne K (.ref C) cv = some (ks.contains c)
def kitB (K : PySem.W.Frag) (tbl : List (Nat × Str)) (cv : Value) (ks : List Nat) : Bool := tbl.all fun p => decide (p.1 < 1000) || decide (PySem.W.kitOne K (.ref (ga K p.2)) cv = some (ks.contains p.1))
theorem kitB_ok {K : PySem.W.Frag} {tbl : List (Nat × Str)} {cv : Value} {ks : List Nat} (h : kitB K tbl cv ks = true) : HiD K (tblC K tbl tt pw fx7 cv7 cd7) cv ks := by
  refine ⟨?_⟩
  rintro c C ⟨p, hp, rfl, rfl⟩ hc
  rcases Bool.or_eq_true_iff.mp (List.all_eq_true.mp h p hp) with q | q
  · exact absurd (of_decide_eq_true q) (by omega)
  · exact of_decide_eq_true q
theorem meth_P {fa : List Fa} {fn : List DefD} {ex : PySem.W.Frag → Bool} {K : PySem.W.Frag} (c : SaysP fa fn ex K) {x m q : Str} {st : Stmt} (i : Nat) (e : fn[i]? = some ⟨(x, some m), m, q, defArgs st, defBody st, defScope st, [], []⟩ := by rfl) :
    ∃ fd, FunD K m q (defArgs st) (defBody st) (defScope st) [] [] (ma K (ga K x) m) fd := c.d.def_ i e
/-- a statement within a class -/
def within (st : Stmt) (j : Nat) : Stmt := match st with
  | .ClassDef _ _ _ b _ _ _ _ _ _ _ => b.getD j (.Pass ⟨0, 0, 0, 0⟩)
  | s => s
theorem own_errs {K : PySem.W.Frag} {tbl : List (Nat × Str)} (h : tbl.all (fun p => decide (1000 ≤ p.1)) = true) : OwnAll K (tblC K tbl tt pw fx7 cv7 cd7) := by
  have key : ∀ c C, (tblC K tbl tt pw fx7 cv7 cd7).c c C → c < 1000 → False := by
    rintro c C ⟨p, hp, rfl, rfl⟩ hc
    have := of_decide_eq_true (List.all_eq_true.mp h p hp)
    omega
  exact ⟨fun c C a b => (key c C a b).elim, fun c C T a b => (key c C a b).elim⟩
end
end DL

namespace DL
noncomputable section
open PySem PySem.Spec PyProof.Rows L2 DLX He
variable {X : Cx} {CM : CMap} {W : WX} {pos : Pos}
/-! ### instances of own classes, as data -/
def ownOf (c : Nat) (h : List Cell) : D → Option (List (Str × D))
  | .obj k fs => if k = c then some fs else none
  | .ref n => (match h[n]? with
    | some (.obj k fs) => if k = c then some fs else none
    | _ => none)
  | _ => none
/-- o.f, a field -/
def cFld (c : Nat) (f : Str) (d : DE) : DE := fun env h => (d env h).bind fun x h1 => match ownOf c h1 x with
  | some fs => (match fs.lookup f with
    | some v => .ok v h1
    | none => .bad)
  | none => .bad
structure AtD (K : PySem.W.Frag) (CM : CMap) (c : Nat) (f : Str) : Prop where
  ex : ∀ C, CM.c c C → Cls K C ∧ NoAttr K C f
/-- o.f = e, o an instance that changes -/
def putD (f : Str) (v : D) : List (Str × D) → List (Str × D)
  | [] => [(f, v)]
  | (g, x) :: r => if g = f then (g, v) :: r else (g, x) :: putD f v r
def putC (c : Nat) (f : Str) (x v : D) (h : List Cell) : Option (List Cell) := match x with
  | .ref n => (match h[n]? with
    | some (.obj k fs) => if k = c ∧ fs.length < 1000 then some (h.set n (.obj k (putD f v fs))) else none
    | _ => none)
  | _ => none
def sFldS (c : Nat) (f : Str) (o e : DE) : DS := fun env h => liftS (e env h) env fun v h1 => liftS (o env h1) env fun x h2 => match putC c f x v h2 with
  | some h3 => .nx env h3
  | none => .bad
/-! ### methods -/
structure CallM (P : Program) (w : World) (K : PySem.W.Frag) (mg : Str → Option Value) (base : Heap) (CM : CMap) (k c : Nat) (m : Str) (n : Nat) (F : DF) : Prop where
  ex : ∀ C, CM.c c C → Cls K C ∧ ∃ f fd ps, Meth K C m f ∧ Binds K fd ps [] ∧ ps.length = n ∧ FnG P w K mg base k f fd ps (spD K CM n F)
theorem CallM.mono {P : Program} {w : World} {K : PySem.W.Frag} {mg : Str → Option Value} {base : Heap} {j k c n : Nat} {m : Str} {F : DF} (M : CallM P w K mg base CM j c m n F) (h : j ≤ k) : CallM P w K mg base CM k c m n F := ⟨fun C g => by
  obtain ⟨a, f, fd, ps, b, c, d, e⟩ := M.ex C g
  exact ⟨a, f, fd, ps, b, c, d, e.mono h⟩⟩
def cMeth (c : Nat) (m : Str) (F : DF) (n : Nat) (d : DE) (das : DEs) : DE := fun env h => (d env h).bind fun x h1 => match ownOf c h1 x with
  | some fs => if (fs.lookup m).isNone = true then (das env h1).bind fun ys h2 => (if ys.length + 1 = n then F (x :: ys) h2 else .bad) else .bad
  | none => .bad
section
variable {c k n : Nat} {m : Str} {F : DF} {d : DE} {das : DEs} {o e : Expr} {es : List Expr} {apos : Pos}
end

/-! ### properties -/
structure CallP (P : Program) (w : World) (K : PySem.W.Frag) (mg : Str → Option Value) (base : Heap) (CM : CMap) (k c : Nat) (f : Str) (F : DF) : Prop where
  ex : ∀ C, CM.c c C → Cls K C ∧ ∃ p g fd ps, PropOf K C f p g ∧ Binds K fd ps [] ∧ ps.length = 1 ∧ FnG P w K mg base k g fd ps (spD K CM 1 F)
def cProp (c : Nat) (F : DF) (d : DE) : DE := fun env h => (d env h).bind fun x h1 => match ownOf c h1 x with
  | some _ => (match F [x] h1 with
    | .exc _ _ => .bad
    | r => r)
  | none => .bad
/-! ### C(..) -/
structure MakeG (P : Program) (w : World) (K : PySem.W.Frag) (mg : Str → Option Value) (base : Heap) (CM : CMap) (k : Nat) (x : Str) (c n : Nat) (F : DF) : Prop where
  ex : ∃ C f fd ps, CM.c c C ∧ mg x = some (.ref C) ∧ Mk K C f ∧ Binds K fd ps [] ∧ ps.length = n ∧ FnG P w K mg base k f fd ps (spD K CM n F)
/-- a new instance, by __init__ -/
def mkInit (c : Nat) (F : DF) (ys : List D) (h : List Cell) : R D := match F (.ref h.length :: ys) (h ++ [.obj c []]) with
  | .ok .non h2 => .ok (.ref h.length) h2
  | .exc e h2 => .exc e h2
  | _ => .bad
/-- an instance that nobody changes -/
def cMake (c : Nat) (F : DF) (n : Nat) (das : DEs) : DE := fun env h => (das env h).bind fun ys h1 => if ys.length + 1 = n then trim h1.length (mkInit c F ys h1) else .bad
section
variable {c k n : Nat} {x : Str} {F : DF} {das : DEs} {e : Expr} {es : List Expr} {p : Pos}
end
end
end DL

namespace DL
noncomputable section
open PySem PySem.Spec PyProof.Rows L2
variable {X : Cx} {CM : CMap} {W : WX} {pos : Pos}

/-! ### while (so many turns at most) -/
def whl (t : DT) (body : DS) : Nat → DS
  | 0, _, _ => .bad
  | n + 1, env, h => liftS (t env h) env fun c h1 => match c with
    | true => (match body env h1 with
      | .nx e' h' => whl t body n e' h'
      | .ct e' h' => whl t body n e' h'
      | .bk e' h' => .nx e' h'
      | r => r)
    | false => .nx env h1
def sWhile (t : DT) (body : DS) : DS := fun env h => whl t body 1000 env h
/-! ### enumerate of a list -/
def enumD (a : List D) : List D := a.zipIdx.map fun p => .tup [.int (p.2 : Nat), p.1]
theorem enumD_get {a : List D} {i : Nat} {d : D} (h : (enumD a)[i]? = some d) : ∃ x, a[i]? = some x ∧ d = .tup [.int (i : Nat), x] := by
  unfold enumD at h
  rw [List.getElem?_map, List.getElem?_zipIdx] at h
  cases e : a[i]? with
  | none => rw [e] at h; cases h
  | some x =>
    rw [e] at h
    simp only [Option.map_some, Nat.zero_add] at h
    exact ⟨x, rfl, (Option.some.inj h).symm⟩
theorem enumD_len {a : List D} : (enumD a).length = a.length := by unfold enumD; simp
theorem meets_enumerate_newT (l : Addr) (items : Array Value) (n : Nat) (dct : Option Addr) (sl : Array (Option Value)) :
    Meets (Builtin.«enumerate.__new__» ⟨[.type "enumerate", .ref l], []⟩) (fun _ R s => s.heap.get? l = some { cls := .type "tuple", dict := dct, data := .seq items n, slots := sl } ∧
      R (.ok (.ret (.ref (s.heap.push { cls := .type "tuple_iterator", data := .fields #[.ref l, .int 0 0] }).objs.size)))
        { s with heap := (s.heap.push { cls := .type "tuple_iterator", data := .fields #[.ref l, .int 0 0] }).push { cls := .type "enumerate", data := .fields #[.none, .bool false, .ref s.heap.objs.size, rawInt 0, .none, .none] } }) :=
  .of_wp fun prog w A R s h => by
    obtain ⟨hp, g, d, tk, os⟩ := s; obtain ⟨hl, h⟩ := h
    have hsub := sub_enumerate
    have hL : Heap.IsTuple (Shared.heap ⟨hp, g, d, tk, os⟩) l items := ⟨_, hl, rfl, n, rfl⟩
    wp_walk using AutoSeq1.wpAny_loadPart' hl
    refine wpAny_stack_any fun st => wpAny_pure ?_
    split
    · rename_i c _ _ _ _ _
      cases (c == Value.type "enumerate")
      · wp_walk using AutoSeq1.wpAny_loadPart' hl, wpAny_pyIter_tuple hL
        exact ⟨_, rfl, h⟩
      · wp_walk using AutoSeq1.wpAny_loadPart' hl, wpAny_pyIter_tuple hL
        exact ⟨_, rfl, h⟩
    · wp_walk using AutoSeq1.wpAny_loadPart' hl, wpAny_pyIter_tuple hL
      exact ⟨_, rfl, h⟩
theorem call_enumerate_tup {prog : Program} {w : World} {A : Around} {E : Value → Shared → Prop} {s : Shared} {l : Addr} {items : Array Value} {Q : Value → Shared → Prop} (hL : s.heap.IsTuple l items)
    (h : ∀ h', IsEnum h' (s.heap.objs.size + 1) s.heap.objs.size 0 .none → h'.IsTupleIter s.heap.objs.size l 0 → h'.objs.size = s.heap.objs.size + 2 →
      (∀ b o, s.heap.get? b = some o → h'.get? b = some o) → Q (.ref (s.heap.objs.size + 1)) { s with heap := h' }) :
    wpAny (model prog w) A (call (.type "enumerate") [.ref l]) Q E s := by
  obtain ⟨⟨c, dct, dt, sl⟩, hl, hc, n, hd⟩ := hL
  replace hc : c = .type "tuple" := hc
  replace hd : dt = .seq items n := hd
  subst hc hd
  refine callType_new PySem.F.called_enumerate (by decide) (PySem.F.typeCall_enumerate_1 _) (PySem.F.newCall_enumerate_1 _) (fun obj => PySem.F.args_object_init_2 obj _) PySem.F.entry_enumerate_new
    (meets_enumerate_newT l items n dct sl) ⟨hl, ?_⟩
  have hz : (s.heap.push { cls := .type "tuple_iterator", data := .fields #[.ref l, .int 0 0] }).objs.size = s.heap.objs.size + 1 := Heap.size_push ..
  show _ ∧ _
  rw [hz]
  have he : IsEnum ((s.heap.push { cls := .type "tuple_iterator", data := .fields #[.ref l, .int 0 0] }).push
      { cls := .type "enumerate", data := .fields #[.none, .bool false, .ref s.heap.objs.size, rawInt 0, .none, .none] }) (s.heap.objs.size + 1) s.heap.objs.size 0 .none := by
    have := Heap.get?_push_size (s.heap.push { cls := .type "tuple_iterator", data := .fields #[.ref l, .int 0 0] })
      (o := { cls := .type "enumerate", data := .fields #[.none, .bool false, .ref s.heap.objs.size, rawInt 0, .none, .none] }) rfl
    rw [hz] at this; exact this
  refine ⟨⟨_, he, rfl⟩, h _ he ⟨_, Heap.get?_push_of_some _ (Heap.get?_push_size _ rfl), rfl, rfl⟩ (by rw [Heap.size_push, hz]) fun b o x => Heap.get?_push_of_some _ (Heap.get?_push_of_some _ x)⟩
theorem pyNext_enumT_end {prog : Program} {w : World} {A : Around} {E : Value → Shared → Prop} {s : Shared} {e it t : Addr} {i : Nat} {items : Array Value} {old : Value} {Q : Option Value → Shared → Prop} (hh : A.handled = none)
    (he : IsEnum s.heap e it ((i : Nat) : Int) old) (hit : s.heap.IsTupleIter it t i) (ht : s.heap.IsTuple t items) (hne : t ≠ it) (hx : items[i]? = none)
    (hQ : ∀ h', Heap.ExtBut it s.heap h' → Q none { s with heap := h' }) : wpAny (model prog w) A (pyNext (.ref e)) Q E s := by
  have hT : s.TypeIs (.ref e) "enumerate" := ⟨_, he, rfl⟩
  unfold pyNext
  refine wpAny_bind (wpAny_attempt (wpAny_callSpecial?_slot (name := Str.ofString "__next__") hT PySem.F.slot_enumerate_next
    (wpAny_call_entry PySem.F.slot_enumerate_next hT PySem.F.entry_enumerate_next ?_ (PySem.F.args_enumerate_next_1 _))))
  show wpAny _ _ (field (.ref e) 2 >>= _) _ _ _
  refine wpAny_bind (wpAny_field he rfl (x := .ref it) rfl ?_)
  refine wpAny_bind (wpAny_nextOf_tuple_end hh hit ht hx fun h' x he' hx' => ?_)
  obtain ⟨o, ho, hc⟩ := hx'
  refine wpAny_bind (wpAny_isInstance (T := "StopIteration") (b := true) ⟨o, ho, hc⟩ isSubtype_stop ?_)
  exact wpAny_pure (hQ _ he')
/-- the tuple at a, each item in a new pair -/
def IteT (K : PySem.W.Frag) (a : Addr) : It :=
  ⟨fun i H => ∃ (xs : List V) (x : V), SqT K H a xs ∧ xs[i]? = some x, fun i H v H' => ∃ T x, v = .ref T ∧ H T = none ∧ H' = upd H T (.tup [.int (i : Nat), x]) ∧ ∀ xs, SqT K H a xs → xs[i]? = some x, fun i H => ∃ xs : List V, SqT K H a xs ∧ xs.length ≤ i⟩
theorem turn_enumT {P : Program} {w : World} {K : PySem.W.Frag} {elts : List Expr} {kk : Nat} {tpos : Pos} (a e it : Addr) :
    Turn P w K (.Tuple elts kk tpos) (IteT K a) [e, it] e (fun i h => (∃ old, IsEnum h e it ((i : Nat) : Int) old) ∧ h.IsTupleIter it a i ∧ e ≠ it ∧ a ≠ it ∧ a ≠ e) where
  mem := by simp
  obj := fun i h st b hb => by
    obtain ⟨⟨old, he⟩, ⟨o, ho, hc, hd⟩, _⟩ := st
    have e' : b = e ∨ b = it := by simpa using hb
    rcases e' with z | z
    · rw [z]; exact ⟨_, he, fun v q => nomatch q⟩
    · rw [z]; exact ⟨o, ho, fun v q => by rw [hd] at q; cases q⟩
  keep := fun i h h' st k => let ⟨⟨old, he⟩, hi, hne⟩ := st; ⟨⟨old, k e (by simp) _ he⟩, hi.at fun o q => k it (by simp) o q, hne⟩
  item := by
    intro X hP hw hK hc i pins s σ H E I hf st hg
    subst hP hw hK
    obtain ⟨⟨old, he⟩, hit, hne, hai, hae⟩ := st
    obtain ⟨xs, x, hq, hx⟩ := hg
    obtain ⟨its, rv, p, hz⟩ := I.tuple hq
    obtain ⟨u, hu, ru⟩ := rv.get hx
    have hel : e < s.heap.objs.size := Heap.lt_size he
    have hil : it < s.heap.objs.size := by obtain ⟨_, q, _⟩ := hit; exact Heap.lt_size q
    have hlt : i < its.toArray.size := by
      rw [List.size_toArray]
      exact (List.getElem?_eq_some_iff.mp hu).1
    have hin : e ∉ [it, a] := by
      simp only [List.mem_cons, List.not_mem_nil, or_false, not_or]
      exact ⟨hne, fun z => hae z.symm⟩
    refine wpAny_pyNext_enum_itemC (Draws.tuple (A := X.A.in1) (I.ok.hd hc) it a hai its.toArray) he ⟨hit, p⟩ hlt hne hin fun x' h' tk hP ho ⟨hit', p'⟩ hT hsz hk => ?_
    have ex' : x' = u := by
      have h1 : its[i]? = some x' := by simpa using hP
      rw [hu] at h1
      exact (Option.some.inj h1).symm
    subst ex'
    refine ⟨_, rfl, wpAny_letOwnedTupleGo_enum (s := { s with heap := h', toks := tk + 1 }) ho fun h'' he' sb => ?_⟩
    have hT2 : h''.get? s.heap.objs.size = some { cls := .type "tuple", data := .seq #[.int i tk, x'] } := (sb.2 _ (Nat.ne_of_gt hel)).trans hT
    have new : ObjOk X.prog X.w (upd H s.heap.objs.size (.tup [.int (i : Nat), x])) h'' s.heap.objs.size (.tup [.int (i : Nat), x]) :=
      ⟨by show 2 ≤ sizeLine; decide, [.int i tk, x'], .cons ⟨_, rfl⟩ (.cons ru .nil), ⟨_, hT2, rfl, _, rfl⟩⟩
    have I1 : Inv X pins σ (upd H s.heap.objs.size (.tup [.int (i : Nat), x])) { s with heap := h'', toks := tk + 1 } :=
      I.turnedNew (ch := [e, it]) (fun b ob hb q => (sb.2 b (fun z => hb (by simp [z]))).trans (hk b ob (fun z => hb (by simp [z])) (fun z => hb (by simp [z])) q)) hf (Nat.le_refl _) new
    refine ⟨.ref s.heap.objs.size, _, I1, rfl, ⟨_, x, rfl, I.hok.fresh (Nat.le_refl _), rfl, fun ys hy => by rw [I.tuple_inj hy hq]; exact hx⟩, ⟨⟨x', ?_⟩, hit'.at fun o q => (sb.2 it (Ne.symm hne)).trans q, hne, hai, hae⟩, fun b hb => ?_⟩
    · have e1 : ((i + 1 : Nat) : Int) = (i : Int) + 1 := by omega
      rw [e1]; exact he'
    · have hb' : b < s.heap.objs.size := by
        have e' : b = e ∨ b = it := by simpa using hb
        rcases e' with z | z
        · rw [z]; exact hel
        · rw [z]; exact hil
      rw [upd_ne (Nat.ne_of_lt hb')]
      exact (hf b hb).1
  done := by
    intro X hP hw hK hc i pins s σ H E I hf st hg
    subst hP hw hK
    obtain ⟨⟨old, he⟩, hit, hne, hai, hae⟩ := st
    obtain ⟨xs, hq, hx⟩ := hg
    obtain ⟨its, rv, p, hz⟩ := I.tuple hq
    obtain ⟨f0, f1, f2, f3, f4, f5⟩ := hf it (by simp)
    have hl := rv.length
    exact pyNext_enumT_end (I.ok.hd hc) he hit p hai (by simp; omega) fun h' eb => ⟨rfl, I.turned (t' := s.toks) (fun b o hb q => eb b o hb q) f0 f1 f3 f4 f5⟩
  self := fun A i s Q E st h => let ⟨⟨_, he⟩, _⟩ := st; wpAny_pyIter_enum he h
def iEnumA (K : PySem.W.Frag) (ta : TA) : TI := fun σ H R => ta σ H fun vs H1 => ∃ a xs, vs = [.ref a] ∧ ((SqL K H1 a xs ∧ R (Ite K a) H1) ∨ (SqT K H1 a xs ∧ R (IteT K a) H1))
theorem pi_enumA {X : Cx} {e : Expr} {ta : TA} {p pos tpos : Pos} {elts : List Expr} {kk : Nat} (hg : Gl X "enumerate") (hm : X.mg "enumerate" = none) (ha : PA X [e] ta) (hs : starEach [e] X.env = [(false, eval e X.env)] := by rfl) :
    PI X (.Tuple elts kk tpos) (.Call (.Name "enumerate" p) [e] [] pos) (iEnumA X.K ta) := by
  refine ⟨fun pins s σ H R I h => ?_⟩
  refine Call_ (ld_blt I hg hm boot_enumerate (PyProof.Rows.callWith_type1 (thn (ha.run pos pins s σ H _ I h) fun us s1 ⟨vs, H1, I1, r1, q1⟩ => ?_) hs rfl))
  obtain ⟨a, xs, ex, q1⟩ := q1
  subst ex
  cases r1 with
  | cons r rr =>
    cases rr
    cases r
    have fp : ∀ b ∈ [s1.heap.objs.size + 1, s1.heap.objs.size], FpOk X pins H1 b := fun b hb => by
      have e' : b = s1.heap.objs.size + 1 ∨ b = s1.heap.objs.size := by simpa using hb
      have hle : s1.heap.objs.size ≤ b := by
        rcases e' with z | z
        · rw [z]; exact Nat.le_add_right _ _
        · rw [z]; exact Nat.le_refl _
      exact I1.fpOk hle (I1.hok.fresh hle)
    rcases q1 with ⟨hq, q⟩ | ⟨hq, q⟩
    · obtain ⟨its, rv, p', hz⟩ := I1.list hq
      refine call_enumerate_list p'.isList fun h' he hit hsz hk => wpAny_pyIter_enum he ?_
      have I2 : Inv X pins σ H1 { s1 with heap := h' } := I1.kept (t' := s1.toks) hk
      exact ⟨s1.heap.objs.size + 1, [s1.heap.objs.size + 1, s1.heap.objs.size], _, _, H1, rfl, I2, turn_enum a (s1.heap.objs.size + 1) s1.heap.objs.size, ⟨⟨.none, he⟩, hit, Nat.succ_ne_self _⟩, fp, q⟩
    · obtain ⟨its, rv, p', hz⟩ := I1.tuple hq
      have hlt : a < s1.heap.objs.size := by obtain ⟨_, ho, _⟩ := id p'; exact Heap.lt_size ho
      refine call_enumerate_tup (show s1.heap.IsTuple a its.toArray from p') fun h' he hit hsz hk => wpAny_pyIter_enum he ?_
      have I2 : Inv X pins σ H1 { s1 with heap := h' } := I1.kept (t' := s1.toks) hk
      exact ⟨s1.heap.objs.size + 1, [s1.heap.objs.size + 1, s1.heap.objs.size], _, _, H1, rfl, I2, turn_enumT a (s1.heap.objs.size + 1) s1.heap.objs.size, ⟨⟨.none, he⟩, hit, Nat.succ_ne_self _, Nat.ne_of_lt hlt, Nat.ne_of_lt (Nat.lt_succ_of_lt hlt)⟩, fp, q⟩
def rowEn (xs : List D) : Option (List D) := match xs with
  | [.lst a] => some (enumD a)
  | [.tup a] => some (enumD a)
  | _ => none
def cItEn (ds : DEs) : DI := fun env h => (ds env h).bind fun xs h1 => match rowEn xs with
  | some p => .ok (p, none) h1
  | none => .bad
theorem d_itEn {e : Expr} {ds : DEs} {p tpos : Pos} {elts : List Expr} {kk : Nat} (hg : Gl X "enumerate") (hm : X.mg "enumerate" = none) (ha : PA X [e] (tDs X.K CM W ds))
    (hs : starEach [e] X.env = [(false, eval e X.env)] := by rfl) : PI X (.Tuple elts kk tpos) (.Call (.Name "enumerate" p) [e] [] pos) (tID X.K CM W (cItEn ds)) := by
  refine PI.imp (pi_enumA hg hm ha hs) fun σ H Q ⟨ρ, env, h, S, E, x⟩ => ?_
  refine ⟨ρ, env, h, S, E, (okP.bind (Rel := rL X.K CM) x).mono fun vs H1 ⟨ρ1, h1, y, e1, s1, q, z⟩ => ?_⟩
  split at z
  · rename_i ps e3
    unfold rowEn at e3
    split at e3
    · cases e3
      obtain ⟨v, rfl, q0⟩ := den1 q
      cases q0 with
      | lst ha ta =>
        refine ⟨_, _, rfl, .inl ⟨ha.sql, z.val s1 fun ρ' h' H' ex S' _ _ i => ⟨fun d hd => ?_, fun hl => ?_⟩⟩⟩
        · obtain ⟨a, g1, rfl⟩ := enumD_get hd
          have ha' := (FrL.ext0 ex ha).sql
          obtain ⟨v, hv, dv⟩ := (ta.ext0 s1.cel ex).get g1
          refine ⟨⟨_, v, ha', hv⟩, fun x H2 ⟨T, x1, ex1, hT, e2, h5⟩ => ?_⟩
          subst ex1 e2
          have k1 := h5 _ ha'
          rw [hv] at k1; cases k1
          exact pair_den S' hT (.int _) dv
        · refine ⟨_, (FrL.ext0 ex ha).sql, ?_⟩
          rw [ta.length]
          rw [enumD_len] at hl
          exact hl
    · cases e3
      obtain ⟨v, rfl, q0⟩ := den1 q
      cases q0 with
      | tup ha ta =>
        refine ⟨_, _, rfl, .inr ⟨ha, z.val s1 fun ρ' h' H' ex S' _ _ i => ⟨fun d hd => ?_, fun hl => ?_⟩⟩⟩
        · obtain ⟨a, g1, rfl⟩ := enumD_get hd
          have ha' := SqT.ext0 s1.cel ex ha
          obtain ⟨v, hv, dv⟩ := (ta.ext0 s1.cel ex).get g1
          refine ⟨⟨_, v, ha', hv⟩, fun x H2 ⟨T, x1, ex1, hT, e2, h5⟩ => ?_⟩
          subst ex1 e2
          have k1 := h5 _ ha'
          rw [hv] at k1; cases k1
          exact pair_den S' hT (.int _) dv
        · refine ⟨_, SqT.ext0 s1.cel ex ha, ?_⟩
          rw [ta.length]
          rw [enumD_len] at hl
          exact hl
    · cases e3
  · exact z.elim

/-! ### name op= e (whole numbers) -/
def augI (f : Int → Int → Int) (x y : D) : Option D := match x, y with
  | .int i, .int j => some (.int (f i j))
  | _, _ => none
def sAugI (i : Nat) (f : Int → Int → Int) (d : DE) : DS := fun env h => match env[i]? with
  | some (some x) => liftS (d env h) env fun y h1 => match augI f x y with
    | some z => .nx (env.set i (some z)) h1
    | none => .bad
  | _ => .bad
end
end DL

namespace DL
noncomputable section
open PySem PySem.Spec PyProof.Rows L2
variable {X : Cx} {CM : CMap} {W : WX} {pos : Pos}

/-! ### name *= e -/
/-! ### xs.extend(ys), ys a list or a tuple -/
/-! ### dicts with keys ints and texts: d[k], d[k] = v, displays -/
def keyOf : D → Option Key
  | .int i => some (.inl i)
  | .str s => some (.inr s)
  | _ => none
def keyD : Key → D
  | .inl i => .int i
  | .inr s => .str s
def dicOf (h : List Cell) (x : D) : Option (List (Key × D)) := match x with
  | .dic kvs => some kvs
  | .ref n => match h[n]? with
    | some (.dic kvs) => some kvs
    | _ => none
  | _ => none
def valD (kvs : List (Key × D)) (k : Key) : Option D := (kvs.find? fun kv => decide (kv.1 = k)).map (·.2)
def putDk (kvs : List (Key × D)) (k : Key) (v : D) : List (Key × D) :=
  if (kvs.any fun kv => decide (kv.1 = k)) = true then kvs.map (fun kv => if kv.1 = k then (kv.1, v) else kv) else kvs ++ [(k, v)]
def opKey : F2 := fun x y h => match dicOf h x, keyOf y with
  | some kvs, some k => match valD kvs k with
    | some d => .ok d h
    | none => .bad
  | _, _ => .bad
theorem valD_den {K : PySem.W.Frag} {ρ : Gh} {H : Hp} {k : Key} : ∀ {kvs : List (Key × V)} {dks : List (Key × D)} {d : D}, kvs.map (·.1) = dks.map (·.1) → DenL K CM ρ H (kvs.map (·.2)) (dks.map (·.2)) → valD dks k = some d → ∃ v, valV kvs k = some v ∧ Den K CM ρ H v d
  | [], [], _, _, _, e => by cases e
  | [], _ :: _, _, e, _, _ => by cases e
  | _ :: _, [], _, e, _, _ => by cases e
  | p :: kvs, q :: dks, d, e, t, ed => by
    obtain ⟨e1, e2⟩ := List.cons.inj e
    have t' : DenL K CM ρ H (p.2 :: kvs.map (·.2)) (q.2 :: dks.map (·.2)) := t
    cases t' with
    | cons a b =>
      by_cases hk : q.1 = k
      · have : valD (q :: dks) k = some q.2 := by simp [valD, List.find?_cons, hk]
        rw [this] at ed
        cases ed
        exact ⟨p.2, valV_pos ((show p.1 = q.1 from e1).trans hk), a⟩
      · have : valD (q :: dks) k = valD dks k := by simp [valD, List.find?_cons, hk]
        rw [this] at ed
        obtain ⟨v, h1, h2⟩ := valD_den e2 b ed
        exact ⟨v, by rw [valV_neg (fun w => hk ((show p.1 = q.1 from e1).symm.trans w))]; exact h1, h2⟩
theorem dic_den {K : PySem.W.Frag} {ρ : Gh} {h : List Cell} {H : Hp} {v : V} {x : D} {dks : List (Key × D)} (S : Sim K CM ρ h H) (q : Den K CM ρ H v x) (e : dicOf h x = some dks) :
    ∃ a kvs, v = .ref a ∧ H a = some (.dK kvs) ∧ kvs.map (·.1) = dks.map (·.1) ∧ DenL K CM ρ H (kvs.map (·.2)) (dks.map (·.2)) := by
  cases q with
  | dic h1 h2 h3 h4 => cases e; exact ⟨_, _, rfl, h1, h3, h4⟩
  | @ref a n hr =>
    obtain ⟨c, hc, ok⟩ := S.at' hr
    unfold dicOf at e
    simp only [hc] at e
    cases c with
    | dic dks' =>
      cases e
      obtain ⟨kvs, h1, h2, h3⟩ := ok
      exact ⟨a, kvs, rfl, h1, h2, h3⟩
    | _ => cases e
  | _ => cases e
theorem key_den {K : PySem.W.Frag} {ρ : Gh} {H : Hp} {v : V} {y : D} {k : Key} (q : Den K CM ρ H v y) (e : keyOf y = some k) : v = kV k := by
  cases q with
  | int i => cases e; rfl
  | str s => cases e; rfl
  | _ => cases e
theorem d_key {a b : Expr} {da db : DE} (hu : X.A.units + 64 < cLine) (ha : PE X a (tD X.K CM W da)) (hb : PE X b (tD X.K CM W db)) (hs : NoSl b := by exact fun _ _ => rfl) : PE X (.Subscript a b pos) (tD X.K CM W (c2 opKey da db)) := by
  refine PE.imp (pe_dget (by omega) ha hb hs) fun σ H Q ⟨ρ, env, h, S, E, x⟩ => ?_
  obtain ⟨r1, r2, r3, r4, r5, r6⟩ := tD.first ⟨S, E⟩ x
  refine ⟨r1, r2, r3, r4, r5, r6.mono fun v H1 ⟨ρ1, h1, y, n, e1, q, z⟩ => ?_⟩
  obtain ⟨r1, r2, r3, r4, r5, r6⟩ := tD.first n z
  refine ⟨r1, r2, r3, r4, r5, r6.mono fun v2 H2 ⟨ρ2, h2, y2, n2, e2, q2, z2⟩ => ?_⟩
  have qo := q.ext n.sim.cel e2
  unfold opKey at z2
  split at z2
  · rename_i dks k hd hk
    split at z2
    · rename_i d hv
      obtain ⟨p, kvs, rfl, hp, hkk, t⟩ := dic_den n2.sim qo hd
      cases key_den q2 hk
      obtain ⟨u, hu2, du⟩ := valD_den hkk t hv
      exact ⟨p, u, rfl, by rw [← hu2]; exact DGet.k hp, z2.val n2.sim du⟩
    · exact z2.elim
  · exact z2.elim
theorem putK_den {K : PySem.W.Frag} {ρ : Gh} {H : Hp} {k : Key} {v : V} {d : D} (qv : Den K CM ρ H v d) : ∀ {kvs : List (Key × V)} {dks : List (Key × D)}, kvs.map (·.1) = dks.map (·.1) → DenL K CM ρ H (kvs.map (·.2)) (dks.map (·.2)) →
    (putK kvs k v).map (·.1) = (putDk dks k d).map (·.1) ∧ DenL K CM ρ H ((putK kvs k v).map (·.2)) ((putDk dks k d).map (·.2)) := by
  intro kvs dks e t
  have ea : (kvs.any fun kv => decide (kv.1 = k)) = (dks.any fun kv => decide (kv.1 = k)) := by
    have h1 : ∀ (l : List (Key × V)), (l.any fun kv => decide (kv.1 = k)) = (l.map (·.1)).any fun x => decide (x = k) := fun l => by rw [List.any_map]; rfl
    have h2 : ∀ (l : List (Key × D)), (l.any fun kv => decide (kv.1 = k)) = (l.map (·.1)).any fun x => decide (x = k) := fun l => by rw [List.any_map]; rfl
    rw [h1, h2, e]
  unfold putK putDk
  rw [ea]
  split
  · have go : ∀ (kvs : List (Key × V)) (dks : List (Key × D)), kvs.map (·.1) = dks.map (·.1) → DenL K CM ρ H (kvs.map (·.2)) (dks.map (·.2)) →
        (kvs.map (fun kv => if kv.1 = k then (kv.1, v) else kv)).map (·.1) = (dks.map (fun kv => if kv.1 = k then (kv.1, d) else kv)).map (·.1) ∧ DenL K CM ρ H ((kvs.map (fun kv => if kv.1 = k then (kv.1, v) else kv)).map (·.2)) ((dks.map (fun kv => if kv.1 = k then (kv.1, d) else kv)).map (·.2)) := by
      intro kvs
      induction kvs with
      | nil =>
        intro dks e t
        cases dks with
        | nil => exact ⟨rfl, .nil⟩
        | cons => cases e
      | cons p kvs ih =>
        intro dks e t
        cases dks with
        | nil => cases e
        | cons q dks =>
          obtain ⟨e1, e2⟩ := List.cons.inj e
          have e1 : p.1 = q.1 := e1
          have t' : DenL K CM ρ H (p.2 :: kvs.map (·.2)) (q.2 :: dks.map (·.2)) := t
          cases t' with
          | cons a b =>
            obtain ⟨i1, i2⟩ := ih dks e2 b
            by_cases hk : q.1 = k
            · have hp : p.1 = k := e1.trans hk
              simp only [List.map_cons, hk, hp, if_true]
              exact ⟨by rw [i1], .cons qv i2⟩
            · have hp : ¬ p.1 = k := fun w => hk (e1.symm.trans w)
              simp only [List.map_cons, hk, hp, if_false]
              exact ⟨by rw [i1, e1], .cons a i2⟩
    exact go kvs dks e t
  · rw [List.map_append, List.map_append, List.map_append, List.map_append, e]
    exact ⟨rfl, t.append (.cons qv .nil)⟩
def setK (x i y : D) (h : List Cell) : Option (List Cell) := match x, keyOf i with
  | .ref n, some k => (match h[n]? with
    | some (.dic ds) => if ds.length < 1000 then some (h.set n (.dic (putDk ds k y))) else none
    | _ => none)
  | _, _ => none
/-- d[k] = e -/
def sSetK (o i e : DE) : DS := fun env h => liftS (e env h) env fun y h1 => liftS (o env h1) env fun x h2 => liftS (i env h2) env fun k h3 => match setK x k y h3 with
  | some h4 => .nx env h4
  | none => .bad
theorem ds_setK {o i e : Expr} {dor di de : DE} {p1 : Pos} (hu : X.A.units + 64 < cLine) (ho : PE X o (tD X.K CM W dor)) (hi : PE X i (tD X.K CM W di)) (he : PE X e (tD X.K CM W de))
    (hs : swapsWith e (some (.Subscript o i p1)) pos.line X.env = pure false := by rfl) : PS X (.Assign [.Subscript o i p1] e pos) (tS X.K CM W (sSetK dor di de)) := by
  refine PS.imp (ps_dput (by omega) ho hi he hs) fun Dn σ H ⟨ρ, env, h, S, E, x⟩ => ?_
  obtain ⟨r1, r2, r3, r4, r5, r6⟩ := tD.firstS ⟨S, E⟩ x
  refine ⟨r1, r2, r3, r4, r5, r6.mono fun v H1 ⟨ρ1, h1, y, n, e1, q, z⟩ => ?_⟩
  obtain ⟨r1, r2, r3, r4, r5, r6⟩ := tD.firstS n z
  refine ⟨r1, r2, r3, r4, r5, r6.mono fun v2 H2 ⟨ρ2, h2, y2, n2, e2, q2, z2⟩ => ?_⟩
  obtain ⟨r1, r2, r3, r4, r5, r6⟩ := tD.firstS n2 z2
  refine ⟨r1, r2, r3, r4, r5, r6.mono fun v3 H3 ⟨ρ3, h3, y3, n3, e3, q3, z3⟩ => ?_⟩
  have qv := (q.ext n.sim.cel e2).ext n2.sim.cel e3
  have qo := q2.ext n2.sim.cel e3
  cases hk : keyOf y3 with
  | none =>
    have e0 : setK y2 y3 y h3 = none := by unfold setK; rw [hk]; cases y2 <;> rfl
    rw [e0] at z3
    exact z3.elim
  | some k =>
    cases y2 with
    | ref m =>
      have e0 : setK (.ref m) y3 y h3 = (match h3[m]? with
        | some (.dic ds) => if ds.length < 1000 then some (h3.set m (.dic (putDk ds k y))) else none
        | _ => none) := by unfold setK; rw [hk]
      rw [e0] at z3
      cases qo with
      | ref ha =>
        obtain ⟨c, hc2, ok⟩ := n3.sim.at' ha
        rw [hc2] at z3
        cases c with
        | dic ds =>
          by_cases hlen : ds.length < 1000
          · simp only [hlen, if_true] at z3
            have hv := key_den q3 hk
            subst hv
            obtain ⟨kvs, ea, hkk, t⟩ := ok
            have hl : kvs.length < sizeLine := by
              have := congrArg List.length hkk
              simp only [List.length_map] at this
              rw [this, sizeLine_eq]
              omega
            refine ⟨_, _, rfl, DPut.k ea hl, ?_⟩
            have hm : _ ∈ ρ3.c := List.mem_of_getElem? ha
            have ex : Ext ρ3 H3 ρ3 (upd H3 _ (.dK (putK kvs k v))) := Ext.cellSet n3.sim.cel hm (nofz ea)
            obtain ⟨w1, w2⟩ := putK_den (k := k) (qv.ext n3.sim.cel ex) hkk (t.ext n3.sim.cel ex)
            exact z3 ρ3 _ σ ex (n3.sim.cellSet ha (nofz ea) ⟨_, upd_same, w1, w2⟩) (n3.env.ext n3.sim.cel ex)
          · simp only [hlen, if_false] at z3
            exact z3.elim
        | _ => exact z3.elim
    | _ => exact z3.elim
/-! displays -/
def cPairs : List (Key × DE) → En → List Cell → R (List (Key × D))
  | [], _, h => .ok [] h
  | (k, d) :: r, env, h => match d env h with
    | .ok x h1 => (match cPairs r env h1 with
      | .ok xs h2 => .ok ((k, x) :: xs) h2
      | _ => .bad)
    | _ => .bad
theorem pairs_ok {K : PySem.W.Frag} {σ : L2.St} : ∀ {ks : List (Key × DE)} {ρ : Gh} {h : List Cell} {H : Hp} {env : En} {r : List (Key × D)} {h' : List Cell} {Q : List (V × V) → Hp → Prop}, Sim K CM ρ h H → EnvOk K CM ρ H σ env → cPairs ks env h = .ok r h' →
    (∀ (ρ' : Gh) (H' : Hp) (kvs : List (Key × V)), Ext ρ H ρ' H' → Sim K CM ρ' h' H' → kvs.map (·.1) = r.map (·.1) → DenL K CM ρ' H' (kvs.map (·.2)) (r.map (·.2)) → Q (kvs.map fun kv => (kV kv.1, kv.2)) H') →
    tPairs (ks.map fun kd => (tD K CM W (cK (keyD kd.1)), tD K CM W kd.2)) σ H Q
  | [], ρ, h, H, env, r, h', Q, S, E, e, q => by
    cases e
    exact q ρ H [] Ext.refl S rfl .nil
  | (k, d) :: ks, ρ, h, H, env, r, h', Q, S, E, e, q => by
    unfold cPairs at e
    split at e
    · rename_i x h1 e1
      split at e
      · rename_i xs h2 e2
        cases e
        show tD K CM W (cK (keyD k)) σ H fun x H1 => tD K CM W d σ H1 fun y H2 => tPairs _ σ H2 fun ps H3 => Q ((x, y) :: ps) H3
        refine ⟨ρ, env, h, S, E, fun ρ1 H1 v ex1 S1 qk => ?_⟩
        have hk : v = kV k := by
          cases k with
          | inl i => cases qk; rfl
          | inr s => cases qk; rfl
        subst hk
        refine ⟨ρ1, env, h, S1, E.ext S.cel ex1, ?_⟩
        rw [e1]
        refine fun ρ2 H2 v ex2 S2 qv => ?_
        refine pairs_ok S2 ((E.ext S.cel ex1).ext S1.cel ex2) e2 fun ρ3 H3 kvs ex3 S3 m t => ?_
        have := q ρ3 H3 ((k, v) :: kvs) ((ex1.trans ex2 S1.cel).trans ex3 S2.cel) S3 (by rw [List.map_cons, List.map_cons, m]) (.cons (qv.ext S2.cel ex3) t)
        exact this
      · cases e
    · cases e
theorem putK_new {kvs : List (Key × V)} {k : Key} {v : V} (h : k ∉ kvs.map (·.1)) : putK kvs k v = kvs ++ [(k, v)] := by
  unfold putK
  rw [if_neg]
  intro w
  obtain ⟨p, hp, e⟩ := List.any_eq_true.mp w
  exact h (List.mem_map.mpr ⟨p, hp, of_decide_eq_true e⟩)
theorem mergeK_new : ∀ {more kvs : List (Key × V)}, (kvs.map (·.1) ++ more.map (·.1)).Nodup → mergeK kvs more = kvs ++ more
  | [], kvs, _ => by show kvs = _; rw [List.append_nil]
  | p :: more, kvs, h => by
    show mergeK (putK kvs p.1 p.2) more = _
    have h' : (kvs.map (·.1) ++ p.1 :: more.map (·.1)).Nodup := h
    have hn : p.1 ∉ kvs.map (·.1) := fun w => by
      have := (List.nodup_append.mp h').2.2 p.1 w p.1 List.mem_cons_self
      exact this rfl
    rw [putK_new hn, mergeK_new (by rw [List.map_append]; simpa using h'), List.append_assoc]
    rfl
def cDisp (ks : List (Key × DE)) : DE := fun env h => match cPairs ks env h with
  | .ok r h1 => .ok (.dic r) h1
  | _ => .bad
def cDispC (ks : List (Key × DE)) : DE := fun env h => match cPairs ks env h with
  | .ok r h1 => .ok (.ref h1.length) (h1 ++ [.dic r])
  | _ => .bad
theorem pairs_keys : ∀ {ks : List (Key × DE)} {env : En} {h h' : List Cell} {r : List (Key × D)}, cPairs ks env h = .ok r h' → r.map (·.1) = ks.map (·.1)
  | [], _, _, _, _, e => by cases e; rfl
  | (k, d) :: ks, env, h, h', r, e => by
    unfold cPairs at e
    split at e
    · split at e
      · rename_i e2
        cases e
        rw [List.map_cons, List.map_cons, pairs_keys e2]
      · cases e
    · cases e
theorem disp_read {K : PySem.W.Frag} {σ : L2.St} {H : Hp} {Q : VK} {ks : List (Key × DE)} {f : List (Key × D) → List Cell → R D} (hk : (ks.map (·.1)).Nodup) (hl : ks.length ≤ 15)
    (hf : ∀ (ρ : Gh) (h : List Cell) (Hc : Hp) (Dd : Addr) (kvs : List (Key × V)) (ds : List (Key × D)), Hc Dd = some (.dK kvs) → Dd ∉ ρ → Sim K CM (ρ.hide Dd) h Hc → kvs.map (·.1) = ds.map (·.1) → DenL K CM (ρ.hide Dd) Hc (kvs.map (·.2)) (ds.map (·.2)) → (∃ ρ0 H0, H0 Dd = none ∧ Ext ρ0 H0 ρ Hc ∧ okP K CM W (rV K CM) ρ0 H0 σ (f ds h) Q) → Q (.ref Dd) Hc)
    (x : ∃ ρ env h, Sim K CM ρ h H ∧ EnvOk K CM ρ H σ env ∧ okP K CM W (rV K CM) ρ H σ (match cPairs ks env h with
      | .ok r h1 => f r h1
      | _ => .bad) Q) : tDisp (ks.map fun kd => (tD K CM W (cK (keyD kd.1)), tD K CM W kd.2)) σ H Q := by
  obtain ⟨ρ, env, h, S, E, x⟩ := x
  intro p hp
  split at x
  · rename_i r h1 e
    have S1 : Sim K CM (ρ.hide p) h (upd H p (.dK [])) := S.hide hp rfl
    have E1 : EnvOk K CM (ρ.hide p) (upd H p (.dK [])) σ env := E.ext0 S.cel (Ext0.hide hp)
    refine pairs_ok S1 E1 e fun ρ' H' kvs ex S' m t => ?_
    obtain ⟨ρ2, rfl⟩ := ex.hidden
    have hpin : H' p = some (.dK []) := ex.keep p _ upd_same (S1.hid p List.mem_cons_self).1
    have hlk : kvs.length = ks.length := by
      have h1 := congrArg List.length m
      have h2 := congrArg List.length (pairs_keys e)
      simp only [List.length_map] at h1 h2
      omega
    refine ⟨hpin, kvs, rfl, by omega, ?_⟩
    have hm : mergeK [] kvs = kvs := by
      have : ((([] : List (Key × V)).map (·.1)) ++ kvs.map (·.1)).Nodup := by rw [m, pairs_keys e]; exact hk
      rw [mergeK_new this, List.nil_append]
    rw [hm]
    have mem : p ∈ (ρ2.hide p).p := List.mem_cons_self
    have S3 : Sim K CM (ρ2.hide p) h1 (upd H' p (.dK kvs)) := S'.setHid mem rfl
    have exA : Ext ρ H ρ2 (upd H' p (.dK kvs)) := ((Ext.fresh hp).trans ex.unhide S1.unhide.cel).wr hp
    refine hf ρ2 h1 _ p kvs r upd_same ?_ S3 m (t.ext0 S'.cel (Ext0.setHid S'.cel mem)) ⟨ρ, H, hp, exA, x⟩
    intro w
    rcases Gh.mem.mp w with w | w
    · exact (S3.hid p List.mem_cons_self).1 w
    · obtain ⟨_, _, ep, _⟩ := exA.pre
      rw [ep] at w
      exact S.cel.notMem hp (.inr w)
  · exact x.elim
theorem disp_fin {K : PySem.W.Frag} {σ : L2.St} {Q : VK} (ρ : Gh) (h : List Cell) (Hc : Hp) (Dd : Addr) (kvs : List (Key × V)) (ds : List (Key × D)) (eD : Hc Dd = some (.dK kvs)) (nD : Dd ∉ ρ) (S' : Sim K CM (ρ.hide Dd) h Hc) (m : kvs.map (·.1) = ds.map (·.1)) (da : DenL K CM (ρ.hide Dd) Hc (kvs.map (·.2)) (ds.map (·.2)))
    (z : ∃ ρ0 H0, H0 Dd = none ∧ Ext ρ0 H0 ρ Hc ∧ okP K CM W (rV K CM) ρ0 H0 σ (R.ok (.dic ds) h) Q) : Q (.ref Dd) Hc := by
  obtain ⟨ρ0, H0, _, ex, z⟩ := z
  exact z ρ Hc _ ex S'.unhide (.dic eD nD m da.unhide)
theorem disp_finC {K : PySem.W.Frag} {σ : L2.St} {Q : VK} (ρ : Gh) (h : List Cell) (Hc : Hp) (Dd : Addr) (kvs : List (Key × V)) (ds : List (Key × D)) (eD : Hc Dd = some (.dK kvs)) (nD : Dd ∉ ρ) (S' : Sim K CM (ρ.hide Dd) h Hc) (m : kvs.map (·.1) = ds.map (·.1)) (da : DenL K CM (ρ.hide Dd) Hc (kvs.map (·.2)) (ds.map (·.2)))
    (z : ∃ ρ0 H0, H0 Dd = none ∧ Ext ρ0 H0 ρ Hc ∧ okP K CM W (rV K CM) ρ0 H0 σ (R.ok (.ref h.length) (h ++ [.dic ds])) Q) : Q (.ref Dd) Hc := by
  obtain ⟨ρ0, H0, hn, ex, z⟩ := z
  refine z (ρ.snoc Dd) Hc _ ?_ ?_ (.ref (by rw [← S'.unhide.len]; simp [Gh.snoc]))
  · obtain ⟨m, e1, e2, e3⟩ := ex.pre
    refine ⟨⟨m ++ [Dd], by simp [Gh.snoc, e1], e2, fun a ha => ?_⟩, ex.kp, ex.tb, ex.fz⟩
    rcases List.mem_append.mp ha with q | q
    · exact e3 a q
    · simp at q
      subst q
      exact hn
  · have S := S'.unhide
    have cells : ∀ {v : List V} {d : List D}, DenL K CM (ρ.hide Dd) Hc v d → DenL K CM (ρ.snoc Dd) Hc v d := fun {v d} q => snoc_denL q
    refine ⟨by simp [Gh.snoc, S.len], ?_, fun a ha => ?_, fun n a c e1 e2 => ?_, S'.tab.flat fun b z y => z (by
      rcases Gh.mem.mp y with y | y
      · rcases List.mem_append.mp (show b ∈ ρ.c ++ [Dd] from y) with y | y
        · exact .inl y
        · exact .inr (by rw [List.mem_singleton.mp y]; exact List.mem_cons_self)
      · exact .inr (List.mem_cons_of_mem _ y))⟩
    · refine List.nodup_append.mpr ⟨S.nd, by simp, fun a ha b hb => ?_⟩
      simp at hb
      subst hb
      intro q
      subst q
      exact nD (.inl ha)
    · obtain ⟨h1, h2⟩ := S.hid a ha
      refine ⟨fun w => ?_, h2⟩
      rcases List.mem_append.mp w with w | w
      · exact h1 w
      · simp at w
        subst w
        exact nD (.inr ha)
    · by_cases hn : n < ρ.c.length
      · have e1' : (ρ.c ++ [Dd])[n]? = some a := e1
        rw [List.getElem?_append_left hn] at e1'
        rw [List.getElem?_append_left (by rw [← S.len]; exact hn)] at e2
        have ok := S'.cell n a c e1' e2
        cases c with
        | lst ds => obtain ⟨vs, q, t⟩ := ok; exact ⟨vs, q, cells t⟩
        | dic dks => obtain ⟨vs, q, k, t⟩ := ok; exact ⟨vs, q, k, cells t⟩
        | obj c dfs => obtain ⟨C, dx, fs, m, q, k, t⟩ := ok; exact ⟨C, dx, fs, m, q, k, cells t⟩
        | dkl dks => obtain ⟨o, vs, q, k, t⟩ := ok; exact ⟨o, vs, q, k, cells t⟩
        | dt dks => obtain ⟨vs, q, k, t⟩ := ok; exact ⟨vs, q, k, cells t⟩
        | dtl dks => obtain ⟨o, vs, q, k, t⟩ := ok; exact ⟨o, vs, q, k, cells t⟩
      · have e1' : (ρ.c ++ [Dd])[n]? = some a := e1
        have hn' : n = ρ.c.length := by
          have := (List.getElem?_eq_some_iff.mp e1').1
          simp at this
          omega
        subst hn'
        simp at e1'
        rw [S.len] at e2
        simp at e2
        subst e1' e2
        exact ⟨kvs, eD, m, cells da⟩
theorem d_disp {keys : List (Option Expr)} {values : List Expr} {ks : List (Key × DE)} (h : PPs X pos keys values (ks.map fun kd => (tD X.K CM W (cK (keyD kd.1)), tD X.K CM W kd.2))) (hall : keys.all (·.isSome) = true) (hl : keys.length = values.length) (h0 : keys ≠ [])
    (h15 : keys.length ≤ 15) (hn : (ks.map (·.1)).Nodup) (h15' : ks.length ≤ 15) : PE X (.Dict keys values pos) (tD X.K CM W (cDisp ks)) :=
  PE.imp (pe_disp h hall hl h0 h15) fun _ _ _ x => disp_read (f := fun r h1 => .ok (.dic r) h1) hn h15' disp_fin (by obtain ⟨ρ, env, h, S, E, x⟩ := x; exact ⟨ρ, env, h, S, E, x⟩)
theorem d_dispC {keys : List (Option Expr)} {values : List Expr} {ks : List (Key × DE)} (h : PPs X pos keys values (ks.map fun kd => (tD X.K CM W (cK (keyD kd.1)), tD X.K CM W kd.2))) (hall : keys.all (·.isSome) = true) (hl : keys.length = values.length) (h0 : keys ≠ [])
    (h15 : keys.length ≤ 15) (hn : (ks.map (·.1)).Nodup) (h15' : ks.length ≤ 15) : PE X (.Dict keys values pos) (tD X.K CM W (cDispC ks)) :=
  PE.imp (pe_disp h hall hl h0 h15) fun _ _ _ x => disp_read (f := fun r h1 => .ok (.ref h1.length) (h1 ++ [Cell.dic r])) hn h15' disp_finC (by obtain ⟨ρ, env, h, S, E, x⟩ := x; exact ⟨ρ, env, h, S, E, x⟩)
/-! ### [..] * k, to be changed -/
def MulCOk (k : Int) (n : Nat) : Prop := -(2 ^ 63) ≤ k ∧ k < 2 ^ 63 ∧ n * k.toNat ≤ sizeLine
instance (k : Int) (n : Nat) : Decidable (MulCOk k n) := Classical.propDecidable _
end
end DL

namespace DL
noncomputable section
open PySem PySem.Spec PyProof.Rows L2 DLX He
variable {tt : List (Addr × Str)} {pw : Program → World → Prop} {fx7 : List (Addr × HO)} {cv7 : List V} {cd7 : List D}
/-! ### own classes, told by the head -/
/-- its fields -/
structure AtsD (K : PySem.W.Frag) (CM : CMap) (c : Nat) (fs : List Str) : Prop where
  ex : ∀ C, CM.c c C → Cls K C ∧ ∀ f ∈ fs, NoAttr K C f
theorem AtsD.at {K : PySem.W.Frag} {CM : CMap} {c : Nat} {fs : List Str} (A : AtsD K CM c fs) (i : Nat) {f : Str} (h : fs[i]? = some f := by rfl) : AtD K CM c f := ⟨fun C g => ⟨(A.ex C g).1, (A.ex C g).2 f (List.mem_of_getElem? h)⟩⟩
/-- a method -/
structure MethF (K : PySem.W.Frag) (CM : CMap) (c : Nat) (m q : Str) (st : Stmt) : Prop where
  ex : ∀ C, CM.c c C → Cls K C ∧ ∃ f fd, Meth K C m f ∧ FunD K m q (defArgs st) (defBody st) (defScope st) [] [] f fd
/-- a constructor -/
structure MkF (K : PySem.W.Frag) (CM : CMap) (mg : Str → Option Value) (x : Str) (c : Nat) (q : Str) (st : Stmt) : Prop where
  ex : ∃ C f fd, CM.c c C ∧ mg x = some (.ref C) ∧ Mk K C f ∧ FunD K "__init__" q (defArgs st) (defBody st) (defScope st) [] [] f fd
/-- a property, and its getter -/
structure PropF (K : PySem.W.Frag) (CM : CMap) (c : Nat) (m q : Str) (st : Stmt) : Prop where
  ex : ∀ C, CM.c c C → Cls K C ∧ ∃ p g fd, PropOf K C m p g ∧ FunD K m q (defArgs st) (defBody st) (defScope st) [] [] g fd
/-- the getter of the property at p -/
def pa (K : PySem.W.Frag) (p : Addr) : Addr := match PySem.W.recIn K p "property" with
  | some (.ref g :: _) => g
  | _ => 0
/-! ### the getters' bodies, told by the head -/
/-- what stands at an address as a def -/
def fnA (K : PySem.W.Frag) (a : Addr) : FnW := match K.lookup a with
  | some ⟨_, _, .func fd, _⟩ => some (fd.name, fd.qualname, fd.params, fd.body, fd.scope, fd.globals, fd.closure, fd.builtins)
  | _ => none
def okA (K : PySem.W.Frag) (a : Addr) (d : DefD) : Bool := PySem.W.keepIn K (.ref a) && (match K.lookup a with
  | some ⟨_, _, .func fd, _⟩ => PySem.W.codeIn K fd.code d.qual && (dflB K fd.defaults (d.dvs K) && kwdB K fd.kwdefaults (d.kws K))
  | _ => false)
def prA (K : PySem.W.Frag) (p : Str × Option Str) : Addr := pa K (fAd K p)
structure SaysQ (fa : List Fa) (fn pr : List DefD) (ex : PySem.W.Frag → Bool) (K : PySem.W.Frag) : Prop where
  p : SaysP fa fn ex K
  ok : pr.all (fun d => okA K (prA K d.at_) d) = true
  eq : (pr.map fun d => fnA K (prA K d.at_)) = pr.map DefD.val
/-! ### methods, constructors, getters by their bodies -/
section
variable {P : Program} {w : World} {K : PySem.W.Frag} {mg : Str → Option Value} {base : Heap} {CM : CMap} {k : Nat} {f : Addr} {fd : FuncData} {N ps : List Str} {x qual : Str} {params : Arguments} {body : List Stmt} {scope : Scope} {b : DS}
end
end
end DL

namespace DL
noncomputable section
open PySem PySem.Spec PyProof.Rows L2
open PySem.W (EachIs AllAlike Sortable SortsAt dataKind dataLe dataLt alike alikeAll keyToks sortVals sortVals_data list_sort_vals sortingHeap sortingHeap_old firstLt_toks oneLt_alike kas_first_eq dataKind_some dataKind_inv dataLt_tuple)
/-! ### sorting tuples, () among them -/
section
variable {prog : Program} {w : World} {A : Around} {E : Value → Shared → Prop} {s : Shared}
end
end
end DL

namespace DL
noncomputable section
open PySem PySem.Spec PyProof.Rows L2
section
variable {P : Program} {w : World} {A : Around} {E : Value → Shared → Prop} {s : Shared}
/-! ### set(x), x a list or a tuple -/
set_option maxHeartbeats 8000000 in
end
end
end DL

namespace DL
noncomputable section
open PySem PySem.Spec PyProof.Rows L2
/-! ### sets of up to 76 tuples of whole numbers -/
/-- the table of a set at a, its rows as a list; fewer than 77 -/
def SetQ (P : Program) (w : World) (h : Heap) (a : Addr) (L : List (Addr × List Int)) (es : Array (Int × Value)) (ep : Nat) (t : SetTable) : Prop :=
  ((∃ o, h.get? a = some o ∧ o.ExactSet ∧ o.data = .set es ep t) ∧ es.toList = L2.rowsOf P w L ∧ L2.TabOk t (L.map fun p => L2.thash P w p.2)) ∧ ((L.map (·.2)).Nodup ∧ ∀ p ∈ L, L2.IsT P w h p.2 p.1) ∧
    (t.plain = true ∧ (w.params.followText "set-order" = true ∨ t.led = true)) ∧ L.length * 5 < t.mask * 3 ∧ L.length < 77
section
variable {P : Program} {w : World} {A : Around} {E : Value → Shared → Prop} {s : Shared} {a : Addr} {L : List (Addr × List Int)} {es : Array (Int × Value)} {ep : Nat} {t : SetTable}
theorem SetQ.of {h : Heap} (R : SetTR P w h a L es ep t) : SetQ P w h a L es ep t :=
  ⟨⟨R.ob, R.rows, R.tab⟩, ⟨R.nd, R.tup⟩, ⟨R.plain, R.led⟩, R.room, Nat.lt_of_lt_of_le R.few (by decide)⟩
theorem SetQ.to (R : SetQ P w s.heap a L es ep t) (hf : L.length < 64) : SetTR P w s.heap a L es ep t :=
  ⟨R.1.1, R.1.2.1, R.1.2.2, R.2.1.1, R.2.1.2, R.2.2.1.1, R.2.2.1.2, R.2.2.2.1, hf⟩
theorem SetQ.row (R : SetQ P w s.heap a L es ep t) {i : Nat} {p : Addr × List Int} (h : L[i]? = some p) : es[i]? = some (L2.thash P w p.2, Value.ref p.1) := by
  rw [← Array.getElem?_toList, R.1.2.1, L2.rowsOf, List.getElem?_map, h]
  rfl
set_option maxHeartbeats 8000000 in
set_option maxHeartbeats 8000000 in
end
/-- the set at a, without the tuples themselves -/
def SetQ0 (P : Program) (w : World) (h : Heap) (a : Addr) (L : List (Addr × List Int)) : Prop := ∃ (es : Array (Int × Value)) (ep : Nat) (t : SetTable),
  ((∃ o, h.get? a = some o ∧ o.ExactSet ∧ o.data = .set es ep t) ∧ es.toList = L2.rowsOf P w L ∧ L2.TabOk t (L.map fun p => L2.thash P w p.2)) ∧ (L.map (·.2)).Nodup ∧ (t.plain = true ∧ (w.params.followText "set-order" = true ∨ t.led = true)) ∧ L.length * 5 < t.mask * 3 ∧ L.length < 77
theorem SetQ0.all {P : Program} {w : World} {h : Heap} {a : Addr} {L : List (Addr × List Int)} (R : SetQ0 P w h a L) (ht : ∀ p ∈ L, L2.IsT P w h p.2 p.1) : ∃ es ep t, SetQ P w h a L es ep t := by
  obtain ⟨es, ep, t, h1, h2, h3⟩ := R
  exact ⟨es, ep, t, h1, ⟨h2, ht⟩, h3⟩
end
end DL

namespace DL
noncomputable section
open PySem PySem.Spec PyProof.Rows L2
section
variable {P : Program} {w : World} {A : Around} {E : Value → Shared → Prop} {s : Shared}
/-! ### sets of tuples of whole numbers, from a row of any length -/
variable {a : Addr} {L : List (Addr × List Int)} {es : Array (Int × Value)} {ep : Nat} {t : SetTable}
end
end
end DL

namespace DL
noncomputable section
open PySem PySem.Spec PyProof.Rows L2
open PySem.W (EachIs AllAlike Sortable SortsAt dataLe dataLt alike alikeAll)
variable {X : Cx} {CM : CMap} {W : WX} {pos : Pos}
/-! ### sorted(x) of data -/
def encD (d : D) : PyData := (d.toP).getD .none
def SrtOk (ds : List D) : Prop := (∀ d ∈ ds, ∃ p, d.toP = some p ∧ p.depth ≤ 30) ∧ AllAlike (ds.map encD) ∧ (Sortable (ds.map encD) ∨ ∀ d ∈ ds.map encD, ∃ xs, d = .tuple xs)
instance (ds : List D) : Decidable (SrtOk ds) := Classical.propDecidable _
def srtD (ds : List D) : List D := ds.mergeSort (dataLe false encD)
def bSorted : FB := fun xs h => match xs with
  | [x] => match seqOf h x with
    | some (_, ds) => if SrtOk ds then .ok (.lst (srtD ds)) h else .bad
    | none => .bad
  | _ => .bad
end
end DL

namespace DL
noncomputable section
open PySem PySem.Spec PyProof.Rows L2
open PySem.W (EachIs AllAlike Sortable SortsAt dataLe dataLt alike alikeAll)
variable {X : Cx} {CM : CMap} {W : WX} {pos : Pos}
/-! ### each once -/
def uq {α : Type} [DecidableEq α] : List α → List α
  | [] => []
  | x :: l => if x ∈ l then uq l else x :: uq l
section
variable {α : Type} [DecidableEq α]
end
def srtI (l : List Int) : List Int := l.mergeSort fun a b => decide (a ≤ b)
def srtR (l : List (List Int)) : List (List Int) := l.mergeSort fun a b => decide (a ≤ b)
/-! ### set(x) -/
/-! ### sorted(set) -/
theorem dataLe_tups {β : Type} (x : β → List Int) : dataLe false (fun b => PyData.tuple ((x b).map .int)) = fun p q => decide (x p ≤ x q) := by
  have := PySem.W.dataLe_rows x
  rw [← this]
  funext a b
  rw [PySem.W.dataLe_eq, PySem.W.dataLe_eq]
  simp only [PySem.W.dataLt_tuple, PySem.W.dataLt_list]
end
end DL

namespace DL
noncomputable section
open PySem PySem.Spec PyProof.Rows L2
variable {X : Cx} {CM : CMap} {W : WX} {pos : Pos}
/-! ### sorted(set(x)) -/
def rowsL : List D → Option (List (List Int))
  | [] => some []
  | .tup ds :: r => (match intsOf ds, rowsL r with
    | some x, some xs => some (x :: xs)
    | _, _ => none)
  | _ :: _ => none
def SmallN (n : Nat) : Prop := n + 1 < scanBound
instance (n : Nat) : Decidable (SmallN n) := Classical.propDecidable _
def srtSetD (ds : List D) : Option (List D) := match intsOf ds with
  | some ns => if SmallN ns.length then some ((srtI (uq ns)).map .int) else none
  | none => (match rowsL ds with
    | some xss => if (uq xss).length < 77 then some ((srtR (uq xss)).map fun x => .tup (x.map .int)) else none
    | none => none)
def cSrtSet (d : DE) : DE := fun env h => (d env h).bind fun x h1 => match seqOf h1 x with
  | some (_, ds) => (match srtSetD ds with
    | some es => .ok (.lst es) h1
    | none => .bad)
  | none => .bad
/-! ### min, max of two -/
def bMin2 : FB := fun xs h => match xs with
  | [.int i, .int j] => .ok (.int (if j < i then j else i)) h
  | _ => .bad
def bMax2 : FB := fun xs h => match xs with
  | [.int i, .int j] => .ok (.int (if j > i then j else i)) h
  | _ => .bad
end
end DL

namespace DL
noncomputable section
open PySem PySem.Spec PyProof.Rows L2
variable {X : Cx} {CM : CMap} {W : WX} {pos : Pos}
/-! ### sum of a list or a tuple -/
def bSum2 : FB := fun xs h => match xs with
  | [x] => match seqOf h x with
    | some (_, ds) => match intsOf ds with
      | some bs => .ok (.int bs.sum) h
      | none => .bad
    | _ => .bad
  | _ => .bad
end
end DL

namespace DL
noncomputable section
open PySem PySem.Spec PyProof.Rows L2
variable {X : Cx} {CM : CMap} {W : WX} {pos : Pos}
/-! ### zip of a tuple with a list -/
def zipM (xs : List D) : Option (List D) := match xs with
  | [.tup a, .lst b] => some (pairUp a b)
  | _ => none
def cItZipM (ds : DEs) : DI := fun env h => (ds env h).bind fun xs h1 => match zipM xs with
  | some p => .ok (p, none) h1
  | none => .bad
end
end DL

namespace DL
noncomputable section
open PySem PySem.Spec PyProof.Rows L2
/-! ### sorted(x, key=lambda one: (len(one), one)) -/
section
variable {P : Program} {w : World} {A : Around} {s : Shared}
end
end
end DL

namespace DL
noncomputable section
open PySem PySem.Spec PyProof.Rows L2
open PySem.W (EachIs AllAlike Sortable SortsAt dataLe dataLt alike alikeAll)
/-! ### the lambda is made -/
section
variable {X : Cx} {pins : List (Addr × Obj)} {σ : L2.St} {H : Hp} {s : Shared}
end
/-! ### the order -/
def LenOk (l : List (List Int)) : Prop := ∀ x ∈ l, x.length ≤ 1000
instance (l : List (List Int)) : Decidable (LenOk l) := Classical.propDecidable _
end
end DL

namespace DL
noncomputable section
open PySem PySem.Spec PyProof.Rows L2
open PySem.W (EachIs AllAlike Sortable SortsAt dataLe dataLt alike alikeAll)
section
variable {X : Cx} {CM : CMap} {W : WX} {pos : Pos}
end
end
end DL

namespace DL
noncomputable section
open PySem PySem.Spec PyProof.Rows L2 He
/-! ### is True, is not True -/
section
variable {X : Cx} {CM : CMap} {W : WX}
end
/-! ### defs with a lambda -/
/-- f's code object -/
def CodeV (K : PySem.W.Frag) (f : Addr) (cdv : Value) : Prop := ∃ oc od fd osl, K.lookup f = some ⟨oc, od, .func fd, osl⟩ ∧ fd.code = cdv
structure LamD (K : PySem.W.Frag) (CM : CMap) (mg : Str → Option Value) (base : Heap) (x q : Str) : Prop where
  ex : ∃ f c P, mg x = some (.ref f) ∧ CodeV K f (.ref c) ∧ LamX.TabB base mg c P ∧ (P, q) ∈ CM.t ∧ ∀ p ∈ CM.t, p.1 = P → p.2 = q
theorem LamD.at {K : PySem.W.Frag} {CM : CMap} {mg : Str → Option Value} {base : Heap} {x q : Str} {f : Addr} {cdv : Value} (L : LamD K CM mg base x q) (hm : mg x = some (.ref f)) (hc : CodeV K f cdv) :
    ∃ c P, cdv = .ref c ∧ LamX.TabB base mg c P ∧ (P, q) ∈ CM.t ∧ ∀ p ∈ CM.t, p.1 = P → p.2 = q := by
  obtain ⟨f2, c, P, h1, ⟨oc, od, fd, osl, h2, h3⟩, h4, h5, h6⟩ := L.ex
  rw [hm] at h1
  cases h1
  obtain ⟨oc2, od2, fd2, osl2, k2, rfl⟩ := hc
  rw [h2] at k2
  cases k2
  exact ⟨c, P, h3, h4, h5, h6⟩
section
variable {P : Program} {w : World} {K : PySem.W.Frag} {mg : Str → Option Value} {base : Heap} {CM : CMap} {k : Nat} {f : Addr} {fd : FuncData} {N ps : List Str} {sp : Sp} {x qual : Str} {params : Arguments} {body : List Stmt} {scope : Scope} {dvs : List V} {kws : List (Str × V)} {b : DS}
end
/-! ### the lambdas, told by the head -/
def lamC (K : PySem.W.Frag) (ls : List (Str × Str)) : List (Addr × Addr) := ls.map fun p => cT K (p.1, none)
structure SaysR (fa : List Fa) (fn pr : List DefD) (ls : List (Str × Str)) (ex : PySem.W.Frag → Bool) (h : Heap) (K : PySem.W.Frag) : Prop where
  q : SaysQ fa fn pr ex K
  hd : ∀ p ∈ ls, PySem.W.codeHdIn K (cT K (p.1, none)).1 (cT K (p.1, none)).2 = true
  out : ∀ p ∈ ls, K.lookup (cT K (p.1, none)).2 = none
  empty : ∀ p ∈ ls, h.get? (cT K (p.1, none)).2 = some { cls := .none, data := .fields #[] }
  nd : ((lamC K ls).map (·.2)).Nodup
  code : ∀ p ∈ ls, CodeV K (ga K p.1) (.ref (codeOf K (p.1, none)))
section
variable {fa : List Fa} {fn pr : List DefD} {ls : List (Str × Str)} {ex : PySem.W.Frag → Bool} {h : Heap} {K : PySem.W.Frag} {mg : Str → Option Value} {base : Heap} {tbl : List (Nat × Str)}
end
end
end DL

namespace DL
noncomputable section
open PySem PySem.Spec PyProof.Rows L2 He
/-! ### the run of the top in parts: each a run of its own, so that the memory is free between them -/
section
open HandSHeadRun PySem.W
end
end
end DL

/-! what the law and the program do to data; printed by a program of mine from the row -/
namespace G
open PySem PySem.Spec PyProof.Rows L2 DL
noncomputable section
def top (i : Nat) : Stmt := PySem.Challenge.pw_openports_k38_errors_and_bounds.main.body.getD i (.Pass ⟨0, 0, 0, 0⟩)
abbrev s__law_deck : Stmt := top 28
abbrev s__law_errors : Stmt := top 32
abbrev s__law_take : Stmt := top 29
abbrev s__law_one : Stmt := top 30
abbrev s__law_odd : Stmt := top 31
abbrev s__law_sorts : Stmt := top 33
abbrev s_law : Stmt := top 34
abbrev si_BadText : Stmt := within (top 9) 0
abbrev si_BadRule : Stmt := within (top 7) 0
abbrev si_BadPrime : Stmt := within (top 6) 0
abbrev si_BadNames : Stmt := within (top 4) 0
abbrev si_BadGroup : Stmt := within (top 3) 0
abbrev si_BadDraws : Stmt := within (top 2) 0
abbrev si_UnlikePeople : Stmt := within (top 16) 0
abbrev si_OpensAlone : Stmt := within (top 13) 0
abbrev si_NoPerson : Stmt := within (top 18) 0
abbrev si_NoGroup : Stmt := within (top 17) 0
abbrev si_TooMany : Stmt := within (top 14) 0
def fn : List He.DefD := [⟨("_law_deck", none), "_law_deck", "_law_deck", defArgs s__law_deck, defBody s__law_deck, defScope s__law_deck, [], []⟩,
  ⟨("_law_errors", none), "_law_errors", "_law_errors", defArgs s__law_errors, defBody s__law_errors, defScope s__law_errors, [], []⟩,
  ⟨("_law_take", none), "_law_take", "_law_take", defArgs s__law_take, defBody s__law_take, defScope s__law_take, [], []⟩,
  ⟨("_law_one", none), "_law_one", "_law_one", defArgs s__law_one, defBody s__law_one, defScope s__law_one, [], []⟩,
  ⟨("_law_odd", none), "_law_odd", "_law_odd", defArgs s__law_odd, defBody s__law_odd, defScope s__law_odd, [], []⟩,
  ⟨("_law_sorts", none), "_law_sorts", "_law_sorts", defArgs s__law_sorts, defBody s__law_sorts, defScope s__law_sorts, [], []⟩,
  ⟨("law", none), "law", "law", defArgs s_law, defBody s_law, defScope s_law, [], []⟩,
  ⟨("BadText", some "__init__"), "__init__", "BadText.__init__", defArgs si_BadText, defBody si_BadText, defScope si_BadText, [], []⟩,
  ⟨("BadRule", some "__init__"), "__init__", "BadRule.__init__", defArgs si_BadRule, defBody si_BadRule, defScope si_BadRule, [], []⟩,
  ⟨("BadPrime", some "__init__"), "__init__", "BadPrime.__init__", defArgs si_BadPrime, defBody si_BadPrime, defScope si_BadPrime, [], []⟩,
  ⟨("BadNames", some "__init__"), "__init__", "BadNames.__init__", defArgs si_BadNames, defBody si_BadNames, defScope si_BadNames, [], []⟩,
  ⟨("BadGroup", some "__init__"), "__init__", "BadGroup.__init__", defArgs si_BadGroup, defBody si_BadGroup, defScope si_BadGroup, [], []⟩,
  ⟨("BadDraws", some "__init__"), "__init__", "BadDraws.__init__", defArgs si_BadDraws, defBody si_BadDraws, defScope si_BadDraws, [], []⟩,
  ⟨("UnlikePeople", some "__init__"), "__init__", "UnlikePeople.__init__", defArgs si_UnlikePeople, defBody si_UnlikePeople, defScope si_UnlikePeople, [], []⟩,
  ⟨("OpensAlone", some "__init__"), "__init__", "OpensAlone.__init__", defArgs si_OpensAlone, defBody si_OpensAlone, defScope si_OpensAlone, [], []⟩,
  ⟨("NoPerson", some "__init__"), "__init__", "NoPerson.__init__", defArgs si_NoPerson, defBody si_NoPerson, defScope si_NoPerson, [], []⟩,
  ⟨("NoGroup", some "__init__"), "__init__", "NoGroup.__init__", defArgs si_NoGroup, defBody si_NoGroup, defScope si_NoGroup, [], []⟩,
  ⟨("TooMany", some "__init__"), "__init__", "TooMany.__init__", defArgs si_TooMany, defBody si_TooMany, defScope si_TooMany, [], []⟩]
def tbl : List (Nat × Str) := [(1000, "PortError"), (1008, "BadDraws"), (1001, "BadGroup"), (1009, "BadNames"), (1010, "BadParts"), (1011, "BadPrime"), (1003, "BadRule"), (1002, "BadShares"), (1012, "BadText"), (1013, "Full"), (1004, "NoneOpens"), (1014, "NothingToUndo"), (1007, "OpensAlone"), (1015, "TooMany"), (1016, "TooWide"), (1017, "UnlikePeople"), (1005, "NoGroup"), (1006, "NoPerson")]
def fa : List He.Fa := [.glo "_law_deck", .glo "_law_errors", .glo "_law_take", .glo "_law_one", .glo "_law_odd", .glo "_law_sorts", .glo "law", .free "repr", .free "range", .free "enumerate", .free "abs", .free "list", .free "len", .free "isinstance", .free "KeyError", .free "LookupError", .free "ValueError", .free "IndexError", .glo "PortError", .glo "BadDraws", .glo "BadGroup", .glo "BadNames", .glo "BadParts", .glo "BadPrime", .glo "BadRule", .glo "BadShares", .glo "BadText", .glo "Full", .glo "NoneOpens", .glo "NothingToUndo", .glo "OpensAlone", .glo "TooMany", .glo "TooWide", .glo "UnlikePeople", .glo "NoGroup", .glo "NoPerson", .glo "PRIMES", .int "MAX_WIDTH" 46, .int "MAX_VECTORS" 20, .int "MAX_TARGETS" 4, .int "MAX_PEOPLE" 6, .int "MAX_PARTS" 8, .int "MAX_LAID" 5, .int "MAX_EDITS" 20]
def cv_PRIMES : List Pv := [.int 2, .int 3, .int 5, .int 7, .int 11, .int 13]
def exl (K : PySem.W.Frag) : List Bool := [He.tupB K "PRIMES" (cv_PRIMES.map Pv.dv),
  errB K tbl [("number" : Str), ("prime" : Str), ("names" : Str), ("group" : Str), ("draws" : Str), ("person" : Str), ("limit" : Str), ("one" : Str), ("other" : Str), ("word" : Str)],
  xcjB K (He.ga K "BadText") false [("number" : Str)],
  xcjB K (He.ga K "BadRule") false [("number" : Str), ("word" : Str)],
  xcjB K (He.ga K "BadPrime") false [("prime" : Str)],
  xcjB K (He.ga K "BadNames") false [("names" : Str)],
  xcjB K (He.ga K "BadGroup") false [("group" : Str)],
  xcjB K (He.ga K "BadDraws") false [("draws" : Str)],
  xcjB K (He.ga K "UnlikePeople") false [("one" : Str), ("other" : Str)],
  xcjB K (He.ga K "OpensAlone") false [("person" : Str)],
  xcjB K (He.ga K "NoPerson") true [("person" : Str)],
  xcjB K (He.ga K "NoGroup") true [("number" : Str)],
  xcjB K (He.ga K "TooMany") false [("limit" : Str)],
  xc0B K (He.ga K "BadShares") false,
  xc0B K (He.ga K "NothingToUndo") false,
  xc0B K (He.ga K "NoneOpens") false,
  xc0B K (He.ga K "Full") false,
  xc0B K (He.ga K "TooWide") false,
  xc0B K (He.ga K "BadParts") false,
  kitB K tbl (.ref (He.ga K "BadNames")) [1009],
  kitB K tbl (.ref (He.ga K "BadGroup")) [1001],
  kitB K tbl (.ref (He.ga K "BadDraws")) [1008],
  kitB K tbl (.ref (He.ga K "BadShares")) [1002],
  kitB K tbl (.ref (He.ga K "BadRule")) [1003],
  kitB K tbl (.ref (He.ga K "BadPrime")) [1011],
  kitB K tbl (.ref (He.ga K "NoneOpens")) [1004],
  kitB K tbl (.ref (He.ga K "Full")) [1013],
  kitB K tbl (.ref (He.ga K "BadText")) [1012],
  kitB K tbl (.ref (He.ga K "UnlikePeople")) [1017],
  kitB K tbl (.ref (He.ga K "OpensAlone")) [1007],
  kitB K tbl (.ref (He.ga K "NothingToUndo")) [1014],
  kitB K tbl (.ref (He.ga K "TooWide")) [1016],
  kitB K tbl (.ref (He.ga K "TooMany")) [1015],
  kitB K tbl (.ref (He.ga K "BadParts")) [1010],
  kitB K tbl (.ref (He.ga K "PortError")) [1000, 1008, 1001, 1009, 1010, 1011, 1003, 1002, 1012, 1013, 1004, 1014, 1007, 1015, 1016, 1017],
  kitB K tbl (.ref (He.ga K "NoPerson")) [1006],
  kitB K tbl (.ref (He.ga K "NoGroup")) [1005],
  kitB K tbl (.type "KeyError") [],
  kitB K tbl (.type "LookupError") [1005, 1006],
  kitB K tbl (.type "ValueError") [1000, 1008, 1001, 1009, 1010, 1011, 1003, 1002, 1012, 1013, 1004, 1014, 1007, 1015, 1016, 1017],
  kitB K tbl (.type "IndexError") []]
def ex (K : PySem.W.Frag) : Bool := (exl K).all id
abbrev Rw : PySem.W.OpenRow := PySem.W.OpenLaw.row PySem.Challenge.rw_openports_k38_errors_and_bounds
def loose0 : List Str := ["PortError", "BadDraws", "BadGroup", "BadNames", "BadParts", "BadPrime", "BadRule", "BadShares", "BadText", "Full", "NoneOpens", "NothingToUndo", "OpensAlone", "TooMany", "TooWide", "UnlikePeople", "NoGroup", "NoPerson", "MAX_EDITS", "MAX_LAID", "MAX_PARTS", "MAX_PEOPLE", "MAX_TARGETS", "MAX_VECTORS", "MAX_WIDTH", "PRIMES", "_law_deck", "_law_take", "_law_one", "_law_odd"]
def loose1 : List Str := ["_law_errors", "_law_sorts"]
def loose : List Str := loose0 ++ loose1
abbrev hk : PySem.W.Hook := hookP 6 fa fn ex
def ob (s : PySem.W.SharedT) : AlP := obsP 6 fa fn ex (HandSHeadRun.getT s)
theorem ob_eq (s : PySem.W.SharedT) : ob s = hk.obs s.abs := obsP_eq (HandSHeadRun.getT_eq s)
theorem run (w : World) : HandSHeadRun.RunEq Rw (PySem.W.view Rw.prog [34]) hk ob 16000 loose w := by
  intro os
  kernel_rfl
end
end G

namespace DL
noncomputable section
open PySem PySem.Spec PyProof.Rows L2 He
variable {X : Cx} {CM : CMap} {W : WX} {pos : Pos}
/-! ### isinstance(x, C), C an own class -/
/-- C has the number c -/
structure IsO (K : PySem.W.Frag) (CM : CMap) (mg : Str → Option Value) (x : Str) (c : Nat) : Prop where
  ex : ∃ C, mg x = some (.ref C) ∧ ∀ k t, KdV CM k t → k ≠ .bad → PySem.W.kitOne K t (.ref C) = some (decide (k = .own c))
/-! ### x == y, the text's own -/
end
end DL

namespace DL
noncomputable section
open PySem PySem.Spec PyProof.Rows L2
variable {X : Cx} {CM : CMap} {W : WX} {pos : Pos}
/-! ### a list that is changed, against data -/
def EqCOk (ps : List PyData) : Prop := PyData.plainAll ps = true ∧ PyData.depthAll ps ≤ 50
instance (ps : List PyData) : Decidable (EqCOk ps) := Classical.propDecidable _
end
end DL

namespace DL
noncomputable section
open PySem PySem.Spec PyProof.Rows L2
variable {X : Cx} {CM : CMap} {W : WX} {pos : Pos}
/-! ### list(range(..)), to be changed -/
end
end DL

namespace DL
noncomputable section
open PySem PySem.Spec PyProof.Rows L2
variable {X : Cx} {CM : CMap} {W : WX} {pos : Pos}
/-! ### a row of anything against an empty row -/
end
end DL

namespace DL
noncomputable section
open PySem PySem.Spec PyProof.Rows L2
variable {X : Cx} {CM : CMap} {W : WX} {pos : Pos}
/-! ### xs.pop(i), xs.pop() -/
def PopOk (ds : List D) (i : Int) : Prop := 0 ≤ i ∧ i < ds.length ∧ i < 2 ^ 63
instance (ds : List D) (i : Int) : Decidable (PopOk ds i) := Classical.propDecidable _
end
end DL

namespace PySem
open Sem (wp)
open Builtin PySem.W PySem.Calls PyProof.Rows
section
variable {prog : Program} {w : World} {A A₀ : Around} {E : Value → Shared → Prop} {s : Shared} {K : Frag} {x C L f : Addr} {h₀ : Heap} {m : Str → Option Value} {ox : Obj} {od : Option Obj} {name : Str} {b tb : Value}
end
end PySem

namespace DL
noncomputable section
open PySem PySem.Spec PyProof.Rows L2 He
variable {X : Cx} {CM : CMap} {W : WX} {pos : Pos}
/-! ### x != y of an own class with its own == -/
end
end DL

namespace DL
noncomputable section
open PySem PySem.Spec PyProof.Rows L2 He
variable {X : Cx} {CM : CMap} {W : WX} {pos : Pos}
/-! ### {} that is to be changed, and how many keys it has -/
end
end DL

namespace DL
noncomputable section
open PySem PySem.Spec PyProof.Rows L2 He
variable {X : Cx} {CM : CMap} {W : WX} {pos : Pos}
/-! ### texts: join, split, int, signs -/
end
end DL

namespace DL
noncomputable section
open PySem PySem.Spec PyProof.Rows L2 He
/-! ### xs[:0:-1]: all but the first, from the back -/
variable {X : Cx} {CM : CMap} {W : WX} {pos : Pos}
end
end DL

namespace NwS
open PySem PySem.Spec PyProof.Rows L2
section
variable {prog : Program} {w : World} {A : Around} {E : Value → Shared → Prop} {s : Shared} {K : PySem.W.Frag} {x C f : Addr} {ox : Obj} {od : Option Obj}
end
end NwS
namespace DL
noncomputable section
open PySem PySem.Spec PyProof.Rows L2 He
variable {X : Cx} {CM : CMap} {W : WX} {pos : Pos}
/-! ### len(x), str(x), x[i], the text's own -/
/-! str(x) -/
/-! x[i] -/
end
end DL

namespace DL
noncomputable section
open PySem PySem.Spec PyProof.Rows L2 He
variable {X : Cx} {CM : CMap} {W : WX} {pos : Pos}
/-! ### x == y and x != y, the text's own, y of any kind -/
/-! ### f-strings -/
inductive PJD (X : Cx) (CM : CMap) (W : WX) : List Expr → List DE → Prop where
  | nil : PJD X CM W [] []
  | cons {e : Expr} {d : DE} {es : List Expr} {ds : List DE} (h : PE X e (tD X.K CM W d)) (r : PJD X CM W es ds) : PJD X CM W (e :: es) (d :: ds)
end
end DL

namespace DL
noncomputable section
open PySem PySem.Spec PyProof.Rows L2 He DLX
/-! ### a def that is called with the error at hand, in its suite -/
structure CallE (P : Program) (w : World) (K : PySem.W.Frag) (mg : Str → Option Value) (base : Heap) (CM : CMap) (k : Nat) (x : Str) (n : Nat) (F : DF) : Prop where
  ex : ∃ f fd ps, mg x = some (.ref f) ∧ PySem.W.keepIn K (.ref f) = true ∧ Binds K fd ps [] ∧ ps.length = n ∧
    ∀ (A : Around) (outer : List Env) (s : Shared) (H : Hp) (us : List Value) (vs : List V) (Q : VK) (a : Addr) (oe : Obj) (cls : Value) (d : Option Addr), L2H.RoomH k A → A.handled = some (.ref a) → Zc cls d oe → (∃ vs, oe.data = .fields vs) → L2H.PinOk outer H s (a, oe) → Env0 P w K mg base A outer s H →
      BindsTo s fd ⟨us, []⟩ (ps.zip us) → Vals vs us → spD K (CM.at_ a cls d) n F vs H Q (fun _ _ _ => False) →
      codeAny (model P w) A (.call (.ref f) ⟨us, []⟩) (CR (L2.CX P w) outer P w H s Q (fun _ _ _ => False)) s
section
variable {X : Cx} {CM : CMap} {k n : Nat} {x : Str} {p pos : Pos} {e : Expr} {es : List Expr} {F : DF} {das : DEs}
theorem RoomH.units {k : Nat} {A : Around} (r : L2H.RoomH k A) : A.units + 64 < cLine := by have := r.un; omega
end
end
end DL

namespace DL
noncomputable section
open PySem PySem.Spec PyProof.Rows L2 He DLX
variable {X : Cx} {CM : CMap} {W : WX}
end
end DL

namespace DL
noncomputable section
open PySem PySem.Spec PyProof.Rows L2 He DLX
/-! ### methods and constructors that leave cells behind -/
section
variable {P : Program} {w : World} {K : PySem.W.Frag} {mg : Str → Option Value} {base : Heap} {CM : CMap} {k : Nat} {f : Addr} {fd : FuncData} {N ps : List Str} {x qual : Str} {params : Arguments} {body : List Stmt} {scope : Scope} {b : DS}
end
variable {X : Cx} {CM : CMap} {W : WX} {pos : Pos}
/-! ### a dict that is walked stays locked -/
section
variable {K : PySem.W.Frag} {ρ ρ' : Gh} {h h' : List Cell} {H H' : Hp} {n : Nat} {a : Addr} {σ : L2.St} {env : En}
end
/-! ### reading dicts, locked or not -/
/-! ### sorted(d), the keys whole numbers -/
end
end DL

namespace DL
noncomputable section
open PySem PySem.Spec PyProof.Rows L2 He DLX
variable {X : Cx} {CM : CMap} {W : WX} {pos : Pos}
/-! ### the keys of a dict, one by one -/
/-! ### {k: v for x in y if t} -/
open Classical in
end
end DL

namespace DL
noncomputable section
open PySem PySem.Spec PyProof.Rows L2 He DLX
variable {X : Cx} {CM : CMap} {W : WX} {pos : Pos}
/-! ### enumerate(x), x a list that may change elsewhere -/
end
end DL

namespace DL
noncomputable section
open PySem PySem.Spec PyProof.Rows L2
variable {X : Cx} {CM : CMap} {W : WX} {pos : Pos}
/-! ### two stores into lists at once -/
end
end DL

namespace DL
noncomputable section
open PySem PySem.Spec PyProof.Rows L2
variable {X : Cx} {CM : CMap} {W : WX} {pos : Pos}
/-! ### zip of a list with a tuple -/
end
end DL

namespace DL
noncomputable section
open PySem PySem.Spec PyProof.Rows L2
variable {X : Cx} {CM : CMap} {W : WX} {pos : Pos}
/-! ### how often a number stands in a list -/
end
end DL

namespace DL
noncomputable section
open PySem PySem.Spec PyProof.Rows L2 He DLX
/-! ### dicts with tuples for keys, wherever the tuples stand -/
section
variable {L : List (List Key × Addr × V)} {xs : List (List Key × Addr × Value)}
end
section
variable {X : Cx} {pins : List (Addr × Obj)} {σ : L2.St} {H : Hp} {s : Shared} {a b : Addr} {L : List (List Key × Addr × V)} {A : Around} {E : Value → Shared → Prop}
end
/-! ### readings -/
section
variable {X : Cx} {o i e f value : Expr} {pos pos' apos cpos : Pos} {td ty tv tx : TE}
end
end
end DL

namespace DL
noncomputable section
open PySem PySem.Spec PyProof.Rows L2 He DLX
variable {X : Cx} {CM : CMap} {W : WX} {pos : Pos}
/-! ### dicts with tuples for keys, by data -/
section
variable {K : PySem.W.Frag} {ρ : Gh} {h : List Cell} {H : Hp}
end
end
end DL

namespace DL
noncomputable section
open PySem PySem.Spec PyProof.Rows L2 He DLX
variable {X : Cx} {CM : CMap} {W : WX} {pos : Pos}
/-! ### {k: v}, k a tuple -/
/-! ### for k in d, the dict locked -/
section
variable {pins : List (Addr × Obj)} {σ : L2.St} {H : Hp} {s : Shared} {d : Addr} {o : Obj} {L : List (List Key × Addr × V)}
end
/-! ### a statement, a dict locked -/
end
end DL

namespace DL
noncomputable section
open PySem PySem.Spec PyProof.Rows L2 He DLX
variable {X : Cx} {CM : CMap} {W : WX} {pos : Pos}
/-! ### bool(x) -/
end
end DL

namespace DL
noncomputable section
open PySem PySem.Spec PyProof.Rows L2
/-! ### x(lambda: e), where x tries what it got -/
section
variable {X : Cx} {pins : List (Addr × Obj)} {σ : L2.St} {H : Hp} {s : Shared}
end
/-! what is told of a result -/
/-- what it returns of the call's value -/
inductive TdE (a : Str) : Bool → Expr → Prop
  | call {p1 p2 : Pos} : TdE a false (.Call (.Name a p1) [] [] p2)
  | list {j : Nat} {p1 p2 p4 p5 : Pos} : TdE a true (.List [.Constant (.str ("ok" : Str)) j p4, .Call (.Name a p1) [] [] p2] p5)
structure ToldF (P : Program) (w : World) (K : PySem.W.Frag) (mg : Str → Option Value) (base : Heap) (CM : CMap) (k : Nat) (x : Str) (n : Nat) (wr : Bool) (hs : List HD) : Prop where
  ex : ∃ (st : Stmt) (g : Addr) (fd : FuncData) (N : List Str) (a : Str) (e : Expr) (h0 : ExceptHandler) (hds : List ExceptHandler) (l : List Cl) (p3 p8 : Pos),
    N.length = n ∧ mg x = some (.ref g) ∧ FunD K x x (defArgs st) (defBody st) (defScope st) [] [] g fd ∧ FnScope N [a] (defScope st) ∧
    (∀ (kV doc pm : Value) (an : Option Addr) (cdv ct : Value) (us : List Value), us.length = 1 → bindArgs (PySem.W.fnOf x x (defArgs st) (defBody st) (defScope st) .none kV doc pm an cdv ct) ⟨us, []⟩ = pure (([a] : List Str).zip us)) ∧
    N[0]? = some a ∧ Vis (defScope st) a ∧ (a == ("__debug__" : Str)) = false ∧ (a == ("__classdict__" : Str)) = false ∧ defBody st = [.Try [.Return (some e) p3] (h0 :: hds) [] [] p8] ∧ TdE a wr e ∧ HsOk K CM l hs ∧
    ∀ (cdv : Value) (A : Around) (outer : List Env) (s : Shared) (H : Hp), (A.deeper (envOfC x (defScope st) s.heap.objs.size g cdv)).guards = some [] → Room k (A.deeper (envOfC x (defScope st) s.heap.objs.size g cdv)) →
      Clauses (cxOf C8.CX0 P w K mg base N x (defScope st) g cdv A outer s H C8.E0) (h0 :: hds) l
section
variable {X : Cx} {CM : CMap} {W : WX}
end
end
end DL

namespace DL
noncomputable section
open PySem PySem.Spec PyProof.Rows L2
variable {X : Cx} {CM : CMap} {W : WX} {pos : Pos}
/-! ### range(a, b, -1) -/
end
end DL

namespace DL
noncomputable section
open PySem PySem.Spec PyProof.Rows L2
variable {X : Cx} {CM : CMap} {W : WX} {pos : Pos}
/-! ### (a, b, ..) = a list of that length -/
section
variable {prog : Program} {w : World} {A : Around} {E : Value → Shared → Prop} {s : Shared}
end
end
end DL

namespace DL
noncomputable section
open PySem PySem.Spec PyProof.Rows L2 DLX
variable {X : Cx} {CM : CMap} {W : WX} {pos p : Pos}
/-! ### an error as a value: C(e, ..) -/
def tMkV (C : Addr) (sp : Sp) (ta : TA) : TE := fun σ H Q => ta σ H fun vs H1 => vs.length ≤ 1000 ∧ ∀ a, H1 a = none → sp (.ref a :: vs) (upd H1 a (exo a C none)) (fun v H2 => v = .non ∧ Q (.ref a) H2) (fun _ _ _ => False)
section
variable {e : Expr} {es : List Expr} {ta : TA}
theorem pe_mkx {x : Str} {C fI : Addr} {k : Nat} {fd : FuncData} {ps : List Str} {sp : Sp} (T : XcK X.K C) (iC : PySem.W.findIn X.K (.ref C) "__init__" = some (some (.ref fI))) (tI : PySem.W.typeIn X.K (.ref fI) = some (.type "function"))
    (F1 : FnOk X.prog X.w X.K X.mg X.base (L2.CX X.prog X.w) k fI fd ps sp) (hr : Room (k + 1) X.A) (hb : Binds X.K fd ps []) (hg : Gl X x) (hm : X.mg x = some (.ref C)) (ha : PA X (e :: es) ta)
    (hdb : (x == ("__debug__" : Str)) = false := by decide) (he : starEach (e :: es) X.env = (false, eval e X.env) :: starEach es X.env := by rfl) (hpl : (backTo pos (starEach es X.env)).any (·.1) = false := by rfl) :
    PE X (.Call (.Name x p) (e :: es) [] pos) (tMkV C sp ta) := by
  obtain ⟨tl, B, newId, initId, O, qx, _⟩ := T.base
  refine ⟨fun pins s σ H Q I h => wpAny_Call_Name_kw (ld_glob I hg hm ?_ hdb)⟩
  refine PySem.W.callWith_K (h₀ := X.base) I.ok.mod.kin T.kC (thn (ha.run pos pins s σ H _ I h) fun us s1 ⟨vs, H1, I1, r1, hz, q1⟩ => ⟨I1.kIn, ?_⟩) he hpl
  show wpAny _ _ (call (.ref C) us) _ _ _
  obtain ⟨nm, N, qn, bs, bm, hdct, sn, sub, ab, col, dd, k0, k1, k2, k3, k5, hC, hT⟩ := PySem.W.excInit_of I1.kIn qx
  obtain ⟨hp, g, dr, tk, os⟩ := s1
  have up1 : hp.objs.size ≤ hp.objs.size + 1 := Nat.le_succ _
  have hn : H1 (hp.objs.size + 1) = none := I1.hok.fresh up1
  have hq := q1 (hp.objs.size + 1) hn
  have old : ∀ b o, hp.get? b = some o → ((hp.push (PySem.W.kdv_tup us)).push (PySem.HandSPX.excO C hp.objs.size)).get? b = some o := fun b o e => Heap.get?_push_of_some _ (Heap.get?_push_of_some _ e)
  have itself : ((hp.push (PySem.W.kdv_tup us)).push (PySem.HandSPX.excO C hp.objs.size)).get? (hp.objs.size + 1) = some (PySem.HandSPX.excO C hp.objs.size) := by heap_get
  have I2 : Inv X pins σ (upd H1 (hp.objs.size + 1) (exo (hp.objs.size + 1) C none)) ⟨(hp.push (PySem.W.kdv_tup us)).push (PySem.HandSPX.excO C hp.objs.size), g, dr, tk, os⟩ :=
    I1.laid (t' := tk) (a := hp.objs.size + 1) (o := exo (hp.objs.size + 1) C none) (h' := (hp.push (PySem.W.kdv_tup us)).push (PySem.HandSPX.excO C hp.objs.size)) old up1 (exo_ok itself)
  have r2 : Vals (V.ref (hp.objs.size + 1) :: vs) (Value.ref (hp.objs.size + 1) :: us) := .cons rfl r1
  have hl : ((Value.ref (hp.objs.size + 1) :: us) ++ []).length = ps.length := by
    rw [List.append_nil, ← r2.length]
    exact F1.len _ _ _ _ hq
  have bnd := hb ⟨(hp.push (PySem.W.kdv_tup us)).push (PySem.HandSPX.excO C hp.objs.size), g, dr, tk, os⟩ (Value.ref (hp.objs.size + 1) :: us) I2.kIn hl
  rw [List.append_nil] at bnd
  have hus : us.length ≤ sizeLine := by
    rw [← Paired.length r1, sizeLine_eq]
    omega
  refine wpAny_call (PySem.HandSPX.call_own O.F hT hC (PySem.W.looks_findIn I1.kIn iC) (fun self => PySem.W.bind_fn I1.kIn self tI) hus
    (codeAny_mono (F1.run _ X.stack _ _ ⟨Value.ref (hp.objs.size + 1) :: us, []⟩ (Value.ref (hp.objs.size + 1) :: us) _ _ (fun _ _ _ => False) (hr.make C us []) (I2.env0.make C us []) bnd r2 hq) fun r s' hq' => ?_))
  cases r with
  | error er => exact (passesF pins σ _ _ er s' I2 hq')
  | ok fl =>
    cases fl with
    | ret u =>
      obtain ⟨v, H', I3, rv, ev, q3⟩ := I2.after hq'
      subst ev
      exact ⟨rv, ⟨V.ref (hp.objs.size + 1), H', I3, rfl, q3⟩⟩
    | next => exact False.elim hq'
    | brk => exact False.elim hq'
    | cont => exact False.elim hq'
end
def cMkX (c : Nat) (fs : List Str) (das : DEs) : DE := fun env h => (das env h).bind fun xs h1 => if xs.length = fs.length ∧ xs.length ≤ 1000 then .ok (.xo c (fs.zip xs).reverse) h1 else .bad
theorem no_mem {K : PySem.W.Frag} {ρ : Gh} {h : List Cell} {H : Hp} {a : Addr} (c : Cel ρ H) (e : H a = none) : a ∉ ρ := fun q => by
  obtain ⟨o, e2, _⟩ := c a q
  rw [e] at e2
  cases e2
theorem d_mkX {c : Nat} {x : Str} {fs : List Str} {das : DEs} {e : Expr} {es : List Expr} (T : XcI X.prog X.w X.K CM X.mg X.base x c fs) (hr : Room 2 X.A) (ha : PA X (e :: es) (tDs X.K CM W das)) (hg : Gl X x := by rfl)
    (hdb : (x == ("__debug__" : Str)) = false := by decide) (he : starEach (e :: es) X.env = (false, eval e X.env) :: starEach es X.env := by rfl) (hpl : (backTo pos (starEach es X.env)).any (·.1) = false := by rfl) :
    PE X (.Call (.Name x p) (e :: es) [] pos) (tD X.K CM W (cMkX c fs das)) := by
  obtain ⟨C, fI, fd, ps, h1, h2, h3, h4, h5, h6, h7⟩ := T.ex
  refine PE.imp (pe_mkx h3 h4 h5 h7 hr h6 hg h2 ha hdb he hpl) fun σ H Q ⟨ρ, env, h, S, E, x⟩ => ?_
  obtain ⟨r1, r2, r3, r4, r5, r6⟩ := tDs.first ⟨S, E⟩ x
  refine ⟨r1, r2, r3, r4, r5, r6.mono fun vs H1 ⟨ρ1, g1, ys, n1, e1, q, z⟩ => ?_⟩
  split at z
  rotate_left
  · exact z.elim
  rename_i hl
  have lv : vs.length = fs.length := q.length.trans hl.1
  refine ⟨by rw [q.length]; exact hl.2, fun a ha => ⟨a, vs, rfl, lv, upd_same, fun dx hdx hne => ⟨rfl, ?_⟩⟩⟩
  have h1dx : H1 dx = none := by rw [upd_ne hne] at hdx; exact hdx
  have e : upd (upd (upd H1 a (exo a C none)) dx (exd dx (fs.zip vs).reverse)) a (exo a C (some dx)) = upd (upd H1 dx (exd dx (fs.zip vs).reverse)) a (exo a C (some dx)) := by
    funext b
    by_cases hb : b = a
    · subst hb; rw [upd_same, upd_same]
    · rw [upd_ne hb, upd_ne hb]
      by_cases hd : b = dx
      · subst hd; rw [upd_same, upd_same]
      · rw [upd_ne hd, upd_ne hd, upd_ne hb]
  rw [e]
  have h2a : upd H1 dx (exd dx (fs.zip vs).reverse) a = none := by rw [upd_ne (Ne.symm hne)]; exact ha
  have S1 := n1.sim.fresh (o := exd dx (fs.zip vs).reverse) h1dx
  have ex : Ext ρ1 H1 ρ1 (upd (upd H1 dx (exd dx (fs.zip vs).reverse)) a (exo a C (some dx))) := (Ext.fresh h1dx).trans (Ext.fresh h2a) S1.cel
  have na := no_mem (K := X.K) (h := g1) n1.sim.cel ha
  have nd := no_mem (K := X.K) (h := g1) n1.sim.cel h1dx
  refine z ρ1 _ _ ex (S1.fresh h2a) (.xo (fs := (fs.zip vs).reverse) h1 ⟨na, .inr ⟨dx, nd, upd_same, ?_⟩⟩ ?_ ?_)
  · rw [upd_ne hne, upd_same]
  · rw [zip_names lv, zip_names hl.1]
  · rw [zip_vals lv, zip_vals hl.1]
    exact (q.ext n1.sim.cel ex).reverse
/-- C(), an error without fields -/
def cMkX0 (c : Nat) : DE := fun _ h => .ok (.xo c []) h
theorem pe_mkx0 {x : Str} {C : Addr} {tl : List Value} {B newId initId : String} (O : BaseOk tl B newId initId) (q : PySem.W.excIn X.K C tl newId = true) (gC : X.mg x = some (.ref C)) (kC : PySem.W.keepIn X.K (.ref C) = true) (hg : Gl X x)
    (hdb : (x == ("__debug__" : Str)) = false := by decide) : PE X (.Call (.Name x p) [] [] pos) (fun _ H Q => ∀ a, H a = none → Q (.ref a) (upd H a (exo a C none))) := by
  refine ⟨fun pins s σ H Q I h => wpAny_Call_Name_kw (ld_glob I hg gC ?_ hdb)⟩
  refine PySem.W.callWith_K0 I.kIn kC ?_
  show wpAny _ _ (call (.ref C) []) _ _ _
  obtain ⟨bm, N, nm, qn, bs, hdct, sn, sub, ab, col, dd, k0, k1, k2, k3, k5, mN, hC, hN, hni, T⟩ := exc_obj I.kIn q
  refine wpAny_call_exc_subT O.F T hC hN hni (fun h' a hm => ?_) (Nat.zero_le _)
  have hn : H a = none := I.hok.gone hm.new
  obtain ⟨t, ht, _, _⟩ := hm.there
  exact ⟨.ref a, upd H a (exo a C none), I.laidN hm.keeps hm.new hn (exo_ok ht), rfl, h a hn⟩
theorem d_mkX0 {c : Nat} {x : Str} (T : Xc0 X.K CM X.mg x c) (hg : Gl X x := by rfl) (hdb : (x == ("__debug__" : Str)) = false := by decide) : PE X (.Call (.Name x p) [] [] pos) (tD X.K CM W (cMkX0 c)) := by
  obtain ⟨C, tl, B, newId, initId, h1, h2, O, h3, h4, h5, h6⟩ := T.ex
  refine PE.imp (pe_mkx0 O h3 h2 h6 hg hdb) fun σ H Q ⟨ρ, env, h, S, E, x⟩ a ha => ?_
  exact x ρ _ _ (Ext.fresh ha) (S.fresh ha) (.xo h1 ⟨no_mem (K := X.K) (h := h) S.cel ha, .inl ⟨upd_same, rfl⟩⟩ rfl .nil)
/-! ### error.f, isinstance(error, C) -/
def cXoF (f : Str) (d : DE) : DE := fun env h => (d env h).bind fun x h1 => match x with
  | .xo c fs => (match fs.lookup f with
    | some v => if c < 1000 then .bad else .ok v h1
    | none => .bad)
  | _ => .bad
def cXoIs (ks : List Nat) (d : DE) : DE := fun env h => (d env h).bind fun x h1 => match x with
  | .xo c _ => if c < 1000 then .bad else .ok (.bl (ks.contains c)) h1
  | _ => .bad
theorem xo_inst {P : Program} {w : World} {ρ : Gh} {H : Hp} {h : Heap} {a C : Addr} {fs : List (Str × V)} (hok : HOk P w H h) (x : XoAt ρ H a C fs) : ∃ (ox : Obj) (od : Option Obj), PySem.W.InstAt h a ox C od ∧ (fs = [] ∨ ∃ oe, od = some oe ∧ ∃ mA : Str → Option Value, (∀ f, PySem.W.lookIn f oe = some (mA f)) ∧ ∀ f, RelO (fs.lookup f) (mA f)) := by
  obtain ⟨_, ⟨e1, rfl⟩ | ⟨dd, _, e1, e2⟩⟩ := x
  · obtain ⟨t1, ho⟩ := exo_at hok e1
    exact ⟨_, none, ⟨ho, rfl, rfl, trivial⟩, .inl rfl⟩
  · obtain ⟨t1, ho⟩ := exo_at hok e1
    obtain ⟨mA, hns, rel⟩ := exd_at hok e2
    obtain ⟨od, hod, hl⟩ := lookIn_ns hns
    exact ⟨_, some od, ⟨ho, rfl, rfl, hod⟩, .inr ⟨od, rfl, mA, hl, rel⟩⟩
theorem d_xoF {e : Expr} {de : DE} {f : Str} {fl : List Str} (EA : ErrAll X.K CM fl) (hfl : f ∈ fl)
    (he : PE X e (tD X.K CM W de)) (hb : attributeBase e f X.env (eval e X.env) = eval e X.env := by rfl) : PE X (.Attribute e f pos) (tD X.K CM W (cXoF f de)) := by
  refine ⟨fun pins s σ H Q I ⟨ρ, env, h, S, E, x⟩ => attr_of hb (thn (he.run pins s σ H _ I (tD.first ⟨S, E⟩ x)) fun u s1 hh => ?_)⟩
  obtain ⟨v, H1, I1, rx, ρ1, h1, y, n, e1, q, z⟩ := hh
  cases q with
  | @xo a C c gs dfs k hx ks t =>
    simp only at z
    split at z
    rotate_left
    · exact z.elim
    rename_i w hw
    cases (show u = Value.ref a from rx)
    obtain ⟨u2, l2, q2⟩ := lookup_den ks t hw
    split at z
    · exact z.elim
    rename_i hc
    obtain ⟨XF, _⟩ := EA.xf c C k (by omega)
    obtain ⟨ox, od, J, hz⟩ := xo_inst I1.hok hx
    rcases hz with hz | ⟨oe, rfl, mA, hl, hr⟩
    · subst hz; cases l2
    obtain ⟨u, hu, ru⟩ := RelO.some_of (v := u2) (o := mA f) (by rw [← l2]; exact hr f)
    exact HandSPX.exc_get I1.kIn J XF.ga XF.gg XF.exC (PySem.W.findObj_own XF.hdC (EA.nof c C f k (by omega) hfl) rfl (by rw [hl, hu])) (handed_of ru) ⟨u2, H1, I1.tok _, ru, z.val n.sim q2⟩
  | _ => exact z.elim
def rIsX (K : PySem.W.Frag) (ρ : Gh) (a C : Addr) : List V → Hp → VK → Prop := fun xs H Q => ∃ (c : V) (cv : Value) (fs : List (Str × V)) (b : Bool), xs = [.ref a, c] ∧ ExcC K C ∧ XoAt ρ H a C fs ∧ (∀ u, RelV c u → u = cv) ∧ PySem.W.kitOne K (.ref C) cv = some b ∧ Q (.bl b) H
theorem call_isX : CallR X (.builtin "isinstance") (fun xs H Q => ∃ ρ a C, rIsX X.K ρ a C xs H Q) := by
  intro pins s σ H xs us Q I r h
  obtain ⟨ρ, a, C, c, cv, fs, b, rfl, T, hx, hcv, e, q⟩ := h
  cases r with
  | cons rx rr =>
    cases rr with
    | cons rt rr =>
      cases rr
      cases rx
      have ec := hcv _ rt
      subst ec
      obtain ⟨ox, od, J, _⟩ := xo_inst I.hok hx
      exact PySem.W.kia_one (kitx_err T) I.kIn J e (fun z => nomatch z) fun tk => ⟨.bl b, H, I.kept (t' := tk) fun _ _ z => z, rfl, q⟩
theorem d_xoIs {e : Expr} {de : DE} {fl : List Str} {t : Str} {p2 : Pos} {cV : V} {cv : Value} (ks : List Nat) (EA : ErrAll X.K CM fl)
    (hk : ∀ c C, CM.c c C → 1000 ≤ c → PySem.W.kitOne X.K (.ref C) cv = some (ks.contains c)) (hcv : ∀ u, RelV cV u → u = cv) (hT : PE X (.Name t p2) (tC cV)) (he : PE X e (tD X.K CM W de)) (hg : Gl X "isinstance") (hm : X.mg "isinstance" = none)
    (hs1 : starEach [e, .Name t p2] X.env = (false, eval e X.env) :: starEach [.Name t p2] X.env := by rfl) (hs2 : starEach [.Name t p2] X.env = (false, eval (.Name t p2) X.env) :: starEach [] X.env := by rfl)
    (hpl : (backTo pos (starEach [.Name t p2] X.env)).any (·.1) = false := by rfl) :
    PE X (.Call (.Name "isinstance" p) [e, .Name t p2] [] pos) (tD X.K CM W (cXoIs ks de)) := by
  refine PE.imp (pe_callB (pos := pos) call_isX hg hm (by decide +kernel) (pa_cons he (pa_cons hT pa_nil hs2) hs1) (by decide) (by decide) hs1 hpl) fun σ H Q ⟨ρ, env, h, S, E, x⟩ => ?_
  obtain ⟨r1, r2, r3, r4, r5, r6⟩ := tD.first ⟨S, E⟩ x
  refine ⟨r1, r2, r3, r4, r5, r6.mono fun v H1 ⟨ρ1, h1, y, n, e1, q, z⟩ => ?_⟩
  cases q with
  | @xo a C c gs dfs k hx ks t =>
    simp only at z
    split at z
    · exact z.elim
    rename_i hc
    exact ⟨ρ1, a, C, cV, cv, gs, _, rfl, (EA.xf _ _ k (by omega)).2, hx, hcv, hk _ _ k (by omega), z.val n.sim (.bl _)⟩
  | _ => exact z.elim
end
end DL

namespace DL
noncomputable section
open PySem PySem.Spec PyProof.Rows L2

/-! ### the plain side: what a result is to be -/
def wp {α : Type} (r : R α) (Q : α → List Cell → Prop) (E : D → List Cell → Prop) : Prop := match r with
  | .ok a h => Q a h
  | .exc e h => E e h
  | .bad => False
structure SPost where
  nx : En → List Cell → Prop
  rt : D → List Cell → Prop
  bk : En → List Cell → Prop
  ct : En → List Cell → Prop
  ex : D → En → List Cell → Prop
def ws (r : SR) (P : SPost) : Prop := match r with
  | .nx e h => P.nx e h
  | .rt d h => P.rt d h
  | .bk e h => P.bk e h
  | .ct e h => P.ct e h
  | .exc d e h => P.ex d e h
  | .bad => False
section
variable {α β : Type} {Q : α → List Cell → Prop} {E : D → List Cell → Prop} {P : SPost} {env : En} {h : List Cell}
theorem wp_bind {r : R α} {k : α → List Cell → R β} {Q : β → List Cell → Prop} : wp (r.bind k) Q E = wp r (fun a h => wp (k a h) Q E) E := by cases r <;> rfl
theorem ws_lift {r : R α} {k : α → List Cell → SR} : ws (liftS r env k) P = wp r (fun a h => ws (k a h) P) (fun e h => P.ex e env h) := by cases r <;> rfl
theorem wp_if {c : Prop} [Decidable c] {a b : R α} : wp (if c then a else b) Q E = (if c then wp a Q E else wp b Q E) := by split <;> rfl
def SPost.seq (P : SPost) (b : DS) : SPost := ⟨fun e h => ws (b e h) P, P.rt, P.bk, P.ct, P.ex⟩
theorem seq_nx {b : DS} : (P.seq b).nx = fun e h => ws (b e h) P := rfl
theorem seq_rt {b : DS} : (P.seq b).rt = P.rt := rfl
theorem seq_bk {b : DS} : (P.seq b).bk = P.bk := rfl
theorem seq_ct {b : DS} : (P.seq b).ct = P.ct := rfl
theorem seq_ex {b : DS} : (P.seq b).ex = P.ex := rfl
theorem ws_seq {a b : DS} : ws (sSeq a b env h) P = ws (a env h) (P.seq b) := by
  unfold sSeq
  cases a env h <;> rfl
theorem ws_nil : ws (sNil env h) P = P.nx env h := rfl
theorem ws_break : ws (sBreak env h) P = P.bk env h := rfl
theorem ws_cont : ws (sCont env h) P = P.ct env h := rfl
theorem ws_retN : ws (sRetN env h) P = P.rt .non h := rfl
theorem ws_expr {d : DE} : ws (sExpr d env h) P = wp (d env h) (fun _ h1 => P.nx env h1) (fun e h => P.ex e env h) := ws_lift
theorem ws_ret {d : DE} : ws (sRet d env h) P = wp (d env h) P.rt (fun e h => P.ex e env h) := ws_lift
theorem ws_set {i : Nat} {d : DE} : ws (sSet i d env h) P = wp (d env h) (fun x h1 => P.nx (env.set i (some x)) h1) (fun e h => P.ex e env h) := ws_lift
theorem ws_if {t : DT} {a b : DS} : ws (sIf t a b env h) P = wp (t env h) (fun x h1 => if x = true then ws (a env h1) P else ws (b env h1) P) (fun e h => P.ex e env h) := by
  unfold sIf
  rw [ws_lift]
  congr 1
  funext x h1
  cases x <;> rfl
/-- what an environment holds -/
def getE (env : En) (i : Nat) : Option D := match env[i]? with
  | some (some d) => some d
  | _ => none
def onO {α : Type} (o : Option α) (p : α → Prop) : Prop := match o with
  | some a => p a
  | none => False
theorem onO_some {α : Type} {a : α} {p : α → Prop} : onO (some a) p = p a := rfl
theorem wp_var {i : Nat} {Q : D → List Cell → Prop} : wp (cVar i env h) Q E = onO (getE env i) (fun d => Q d h) := by
  unfold cVar getE
  generalize env[i]? = o
  rcases o with _ | _ | d <;> rfl
theorem getE_zero {d : D} {r : En} : getE (some d :: r) 0 = some d := rfl
theorem getE_succ {x : Option D} {r : En} {i : Nat} : getE (x :: r) (i + 1) = getE r i := rfl
theorem wp_K {d : D} {Q : D → List Cell → Prop} : wp (cK d env h) Q E = Q d h := rfl
theorem wp_nil {Q : List D → List Cell → Prop} : wp (cNil env h) Q E = Q [] h := rfl
theorem wp_cons {d : DE} {ds : DEs} {Q : List D → List Cell → Prop} : wp (cCons d ds env h) Q E = wp (d env h) (fun x h1 => wp (ds env h1) (fun xs h2 => Q (x :: xs) h2) E) E := by
  unfold cCons
  rw [wp_bind]
  congr 1
  funext x h1
  rw [wp_bind]
  rfl
variable {Q : D → List Cell → Prop}
theorem wp_tup {ds : DEs} : wp (cTup ds env h) Q E = wp (ds env h) (fun xs h1 => xs.length ≤ sizeLine ∧ Q (.tup xs) h1) E := by
  unfold cTup
  rw [wp_bind]
  congr 1
  funext x h1
  rw [wp_if]
  split
  · rename_i hz; simp [wp, hz]
  · rename_i hz; simp [wp, hz]
theorem wp_lst {ds : DEs} : wp (cLst ds env h) Q E = wp (ds env h) (fun xs h1 => xs.length ≤ sizeLine ∧ Q (.lst xs) h1) E := by
  unfold cLst
  rw [wp_bind]
  congr 1
  funext x h1
  rw [wp_if]
  split
  · rename_i hz; simp [wp, hz]
  · rename_i hz; simp [wp, hz]
theorem wp_lstC {ds : DEs} : wp (cLstC ds env h) Q E = wp (ds env h) (fun xs h1 => xs.length ≤ sizeLine ∧ Q (.ref h1.length) (h1 ++ [.lst xs])) E := by
  unfold cLstC
  rw [wp_bind]
  congr 1
  funext x h1
  rw [wp_if]
  split
  · rename_i hz; simp [wp, hz]
  · rename_i hz; simp [wp, hz]
theorem wp_c1 {f : F1} {a : DE} : wp (c1 f a env h) Q E = wp (a env h) (fun x h1 => wp (f x h1) Q E) E := wp_bind
theorem wp_c2 {f : F2} {a b : DE} : wp (c2 f a b env h) Q E = wp (a env h) (fun x h1 => wp (b env h1) (fun y h2 => wp (f x y h2) Q E) E) E := by
  unfold c2
  rw [wp_bind]
  congr 1
  funext x h1
  exact wp_bind
theorem wp_call {f : FB} {ds : DEs} : wp (cCall f ds env h) Q E = wp (ds env h) (fun xs h1 => wp (f xs h1) Q E) E := wp_bind
theorem wp_fn {F : DF} {n : Nat} {ds : DEs} : wp (cFn F n ds env h) Q E = wp (ds env h) (fun xs h1 => xs.length = n ∧ wp (F xs h1) Q E) E := by
  unfold cFn
  rw [wp_bind]
  congr 1
  funext x h1
  rw [wp_if]
  split
  · rename_i hz; simp [hz]
  · rename_i hz; simp [wp, hz]
def asB (d : D) (p : Bool → Prop) : Prop := match d with
  | .bl b => p b
  | _ => False
theorem asB_bl {b : Bool} {p : Bool → Prop} : asB (.bl b) p = p b := rfl
theorem wp_toT {d : DE} {Q : Bool → List Cell → Prop} : wp (toT d env h) Q E = wp (d env h) (fun x h1 => asB x fun b => Q b h1) E := by
  unfold toT
  rw [wp_bind]
  congr 1
  funext x h1
  cases x <;> rfl
theorem wp_cif {t : DT} {a b : DE} : wp (cIf t a b env h) Q E = wp (t env h) (fun x h1 => if x = true then wp (a env h1) Q E else wp (b env h1) Q E) E := by
  unfold cIf
  rw [wp_bind]
  congr 1
  funext x h1
  exact wp_if
theorem wp_tand {a b : DT} {Q : Bool → List Cell → Prop} : wp (cTAnd a b env h) Q E = wp (a env h) (fun x h1 => if x = true then wp (b env h1) Q E else Q false h1) E := by
  unfold cTAnd
  rw [wp_bind]
  congr 1
  funext x h1
  exact wp_if
theorem wp_tor {a b : DT} {Q : Bool → List Cell → Prop} : wp (cTOr a b env h) Q E = wp (a env h) (fun x h1 => if x = true then Q true h1 else wp (b env h1) Q E) E := by
  unfold cTOr
  rw [wp_bind]
  congr 1
  funext x h1
  exact wp_if
theorem wp_tnot {a : DT} {Q : Bool → List Cell → Prop} : wp (cTNot a env h) Q E = wp (a env h) (fun x h1 => Q (!x) h1) E := by
  unfold cTNot
  rw [wp_bind]
  rfl
theorem wp_isN {a : DE} : wp (cIsN a env h) Q E = wp (a env h) (fun x h1 => Q (.bl (isNon x)) h1) E := wp_bind
theorem wp_notN {a : DE} : wp (cNotN a env h) Q E = wp (a env h) (fun x h1 => Q (.bl (!isNon x)) h1) E := wp_bind
theorem wp_and {a b : DE} : wp (cAnd a b env h) Q E = wp (a env h) (fun x h1 => asB x fun c => if c = true then wp (b env h1) Q E else Q (.bl false) h1) E := by
  unfold cAnd
  rw [wp_bind]
  congr 1
  funext x h1
  cases x with
  | bl c => cases c <;> rfl
  | _ => rfl
theorem wp_or {a b : DE} : wp (cOr a b env h) Q E = wp (a env h) (fun x h1 => asB x fun c => if c = true then Q (.bl true) h1 else wp (b env h1) Q E) E := by
  unfold cOr
  rw [wp_bind]
  congr 1
  funext x h1
  cases x with
  | bl c => cases c <;> rfl
  | _ => rfl
theorem wp_not {a : DE} : wp (cNot a env h) Q E = wp (a env h) (fun x h1 => asB x fun c => Q (.bl (!c)) h1) E := by
  unfold cNot
  rw [wp_bind]
  congr 1
  funext x h1
  cases x with
  | bl c => cases c <;> rfl
  | _ => rfl
theorem wp_chain {f g : F2} {a b c : DE} : wp (cChain f g a b c env h) Q E = wp (a env h) (fun x h1 => wp (b env h1) (fun y h2 => wp (f x y h2) (fun z h3 => asB z fun k => if k = true then wp (c env h3) (fun w h4 => wp (g y w h4) Q E) E else Q (.bl false) h3) E) E) E := by
  unfold cChain
  rw [wp_bind]
  congr 1
  funext x h1
  rw [wp_bind]
  congr 1
  funext y h2
  rw [wp_bind]
  congr 1
  funext z h3
  cases z with
  | bl k =>
    cases k with
    | true => exact wp_bind
    | false => rfl
  | _ => rfl
theorem wp_isa {T : Ty0} {d : DE} : wp (cIsa T d env h) Q E = wp (d env h) (fun x h1 => kdOf h1 x ≠ .bad ∧ Q (.bl (isa0 T (kdOf h1 x))) h1) E := by
  unfold cIsa
  rw [wp_bind]
  congr 1
  funext x h1
  rw [wp_if]
  split
  · rename_i hz; simp [wp, hz]
  · rename_i hz; simp [wp, hz]
theorem wp_slice {a : DE} {lo hi : DO} : wp (cSlice a lo hi env h) Q E = wp (a env h) (fun x h1 => wp (lo env h1) (fun l h2 => wp (hi env h2) (fun u h3 => wp (opSlice x l u h3) Q E) E) E) E := by
  unfold cSlice
  rw [wp_bind]
  congr 1
  funext x h1
  rw [wp_bind]
  congr 1
  funext y h2
  exact wp_bind
theorem wp_noP {Q : Option Int → List Cell → Prop} : wp (cNoP env h) Q E = Q none h := rfl
def asI (d : D) (p : Int → Prop) : Prop := match d with
  | .int i => p i
  | _ => False
theorem asI_int {i : Int} {p : Int → Prop} : asI (.int i) p = p i := rfl
theorem wp_P {d : DE} {Q : Option Int → List Cell → Prop} : wp (cP d env h) Q E = wp (d env h) (fun x h1 => asI x fun i => Q (some i) h1) E := by
  unfold cP
  rw [wp_bind]
  congr 1
  funext x h1
  cases x <;> rfl
theorem wp_rev {d : DE} : wp (cRev d env h) Q E = wp (d env h) (fun x h1 => wp (opRev x h1) Q E) E := wp_bind
theorem wp_dic0 : wp (cDic0 env h) Q E = Q (.dic []) h := rfl
theorem wp_app {o e : DE} : wp (cApp o e env h) Q E = wp (o env h) (fun x h1 => isLst h1 x = true ∧ wp (e env h1) (fun y h2 => wp (appD x y h2) Q E) E) E := by
  unfold cApp
  rw [wp_bind]
  congr 1
  funext x h1
  rw [wp_if]
  split
  · rename_i hz; rw [wp_bind]; simp [hz]
  · rename_i hz; simp [wp, hz]
theorem ws_setI {o i e : DE} : ws (sSetI o i e env h) P = wp (e env h) (fun y h1 => wp (o env h1) (fun x h2 => wp (i env h2) (fun k h3 => onO (setAt x k y h3) fun h4 => P.nx env h4) (fun e h => P.ex e env h)) (fun e h => P.ex e env h)) (fun e h => P.ex e env h) := by
  unfold sSetI
  rw [ws_lift]
  congr 1
  funext y h1
  rw [ws_lift]
  congr 1
  funext x h2
  rw [ws_lift]
  congr 1
  funext k h3
  split
  · rename_i h4 e; rw [e]; rfl
  · rename_i e; rw [e]; rfl
theorem ws_asg {g : DG} {d : DE} : ws (sAsg g d env h) P = wp (d env h) (fun x h1 => onO (g x env h1) fun env1 => P.nx env1 h1) (fun e h => P.ex e env h) := by
  unfold sAsg
  rw [ws_lift]
  congr 1
  funext y h1
  split
  · rename_i h4 e; rw [e]; rfl
  · rename_i e; rw [e]; rfl
def as2 (xs : List D) (p : D → D → Prop) : Prop := match xs with
  | [x, y] => p x y
  | _ => False
def as3 (xs : List D) (p : D → D → D → Prop) : Prop := match xs with
  | [x, y, z] => p x y z
  | _ => False
theorem as2_two {x y : D} {p : D → D → Prop} : as2 [x, y] p = p x y := rfl
theorem as3_three {x y z : D} {p : D → D → D → Prop} : as3 [x, y, z] p = p x y z := rfl
theorem ws_par {i j : Nat} {ds : DEs} : ws (sPar i j ds env h) P = wp (ds env h) (fun xs h1 => as2 xs fun x y => P.nx ((env.set i (some x)).set j (some y)) h1) (fun e h => P.ex e env h) := by
  unfold sPar
  rw [ws_lift]
  congr 1
  funext xs h1
  rcases xs with _ | ⟨x, _ | ⟨y, _ | ⟨z, r⟩⟩⟩ <;> rfl
theorem ws_par3 {i j l : Nat} {ds : DEs} : ws (sPar3 i j l ds env h) P = wp (ds env h) (fun xs h1 => as3 xs fun x y z => P.nx (((env.set i (some x)).set j (some y)).set l (some z)) h1) (fun e h => P.ex e env h) := by
  unfold sPar3
  rw [ws_lift]
  congr 1
  funext xs h1
  rcases xs with _ | ⟨x, _ | ⟨y, _ | ⟨z, _ | ⟨u, r⟩⟩⟩⟩ <;> rfl
/-! operators -/
theorem wp_addI {i j : Int} : wp (opAdd (.int i) (.int j) h) Q E = Q (.int (i + j)) h := rfl
theorem wp_subI {i j : Int} : wp (opSub (.int i) (.int j) h) Q E = Q (.int (i - j)) h := by unfold opSub opI; simp [wp]
theorem wp_mulI {i j : Int} : wp (opMul (.int i) (.int j) h) Q E = (CMul i j ∧ Q (.int (i * j)) h) := by
  show wp (if CMul i j then .ok (.int (i * j)) h else .bad) Q E = _
  rw [wp_if]
  split <;> simp [wp, *]
theorem wp_divI {i j : Int} : wp (opFdiv (.int i) (.int j) h) Q E = (CDiv i j ∧ Q (.int (i / j)) h) := by
  show wp (if CDiv i j then .ok (.int (i / j)) h else .bad) Q E = _
  rw [wp_if]
  split <;> simp [wp, *]
theorem wp_modI {i j : Int} : wp (opMod (.int i) (.int j) h) Q E = (0 < j ∧ Q (.int (i % j)) h) := by
  show wp (if 0 < j then .ok (.int (i % j)) h else .bad) Q E = _
  rw [wp_if]
  split <;> simp [wp, *]
theorem wp_powI {i j : Int} : wp (opPow (.int i) (.int j) h) Q E = (CPow i j ∧ Q (.int (i ^ j.toNat)) h) := by
  show wp (if CPow i j then .ok (.int (i ^ j.toNat)) h else .bad) Q E = _
  rw [wp_if]
  split <;> simp [wp, *]
theorem wp_negI {i : Int} : wp (opNeg (.int i) h) Q E = Q (.int (-i)) h := rfl
theorem wp_gtI {i j : Int} : wp (opGt (.int i) (.int j) h) Q E = Q (.bl (decide (j < i))) h := rfl
theorem wp_ltI {i j : Int} : wp (opLt (.int i) (.int j) h) Q E = Q (.bl (decide (i < j))) h := rfl
theorem wp_leI {i j : Int} : wp (opLe (.int i) (.int j) h) Q E = Q (.bl (decide (i ≤ j))) h := rfl
theorem wp_geI {i j : Int} : wp (opGe (.int i) (.int j) h) Q E = Q (.bl (decide (j ≤ i))) h := rfl
theorem wp_addT {a b : List D} : wp (opAdd (.tup a) (.tup b) h) Q E = (a.length + b.length ≤ sizeLine ∧ Q (.tup (a ++ b)) h) := by
  show wp (if a.length + b.length ≤ sizeLine then .ok (.tup (a ++ b)) h else .bad) Q E = _
  rw [wp_if]
  split <;> simp [wp, *]
theorem wp_addL {a b : List D} : wp (opAdd (.lst a) (.lst b) h) Q E = (a.length + b.length ≤ sizeLine ∧ Q (.lst (a ++ b)) h) := by
  show wp (if a.length + b.length ≤ sizeLine then .ok (.lst (a ++ b)) h else .bad) Q E = _
  rw [wp_if]
  split <;> simp [wp, *]
theorem wp_lenT {a : List D} : wp (bLen [.tup a] h) Q E = Q (.int a.length) h := rfl
theorem wp_lenL {a : List D} : wp (bLen [.lst a] h) Q E = Q (.int a.length) h := rfl
theorem wp_intI {i : Int} : wp (bInt [.int i] h) Q E = Q (.int i) h := rfl
theorem wp_intB {k : Bool} : wp (bInt [.bl k] h) Q E = Q (.int (if k then 1 else 0)) h := rfl
theorem wp_absI {i : Int} : wp (bAbs [.int i] h) Q E = Q (.int (if i < 0 then -i else i)) h := rfl
theorem wp_tupL {a : List D} : wp (bTuple [.lst a] h) Q E = Q (.tup a) h := rfl
theorem wp_tupT {a : List D} : wp (bTuple [.tup a] h) Q E = Q (.tup a) h := rfl
theorem wp_listL {a : List D} : wp (bList [.lst a] h) Q E = Q (.lst a) h := rfl
theorem wp_listT {a : List D} : wp (bList [.tup a] h) Q E = Q (.lst a) h := rfl
theorem wp_sliceT {a : List D} {lo hi : Option Int} : wp (opSlice (.tup a) lo hi h) Q E = Q (.tup (cutD a lo hi)) h := rfl
theorem wp_sliceL {a : List D} {lo hi : Option Int} : wp (opSlice (.lst a) lo hi h) Q E = Q (.lst (cutD a lo hi)) h := rfl
theorem wp_revT {a : List D} : wp (opRev (.tup a) h) Q E = Q (.tup a.reverse) h := rfl
theorem wp_revL {a : List D} : wp (opRev (.lst a) h) Q E = Q (.lst a.reverse) h := rfl
theorem wp_idxT {a : List D} {i : Int} : wp (opIdx (.tup a) (.int i) h) Q E = onO (atI a i) fun d => Q d h := by
  show wp (match atI a i with | some d => .ok d h | none => .bad) Q E = _
  cases atI a i <;> rfl
theorem wp_idxL {a : List D} {i : Int} : wp (opIdx (.lst a) (.int i) h) Q E = onO (atI a i) fun d => Q d h := by
  show wp (match atI a i with | some d => .ok d h | none => .bad) Q E = _
  cases atI a i <;> rfl
theorem wp_repr {x : D} : wp (bRepr [x] h) Q E = onO x.toP fun p => p.showable = true ∧ p.depth ≤ 60 ∧ p.shown.length ≤ sizeLine ∧ Q (.str p.shown) h := by
  show wp (match x.toP with | some p => if p.showable = true ∧ p.depth ≤ 60 ∧ p.shown.length ≤ sizeLine then .ok (.str p.shown) h else .bad | none => .bad) Q E = _
  cases x.toP with
  | none => rfl
  | some p =>
    show wp (if _ then _ else _) Q E = _
    rw [wp_if]
    split
    · rename_i hz; simp [wp, onO, hz]
    · rename_i hz; exact (eq_false (fun ⟨a, b, c, _⟩ => hz ⟨a, b, c⟩)).symm
theorem wp_eqI {i j : Int} {neg : Bool} : wp (opEq neg (.int i) (.int j) h) Q E = Q (.bl (neg != decide (i = j))) h := by
  show Q (.bl (neg != PyData.eqv (.int i) (.int j))) h = _
  congr 3
end
end
end DL

namespace DL
noncomputable section
open PySem PySem.Spec PyProof.Rows L2

/-! ### behind a call -/
mutual
theorem low_le {m n : Nat} (hmn : m ≤ n) : ∀ {d : D}, low m d = true → low n d = true
  | .non, _ => rfl
  | .bl _, _ => rfl
  | .int _, _ => rfl
  | .str _, _ => rfl
  | .tup ds, h => lowL_le hmn (ds := ds) h
  | .lst ds, h => lowL_le hmn (ds := ds) h
  | .dic kvs, h => lowK_le hmn (ds := kvs) h
  | .obj _ fs, h => lowF_le hmn (ds := fs) h
  | .ref k, h => decide_eq_true (Nat.lt_of_lt_of_le (of_decide_eq_true h) hmn)
  | .err _ _, h => by cases h
  | .xo _ fs, h => lowF_le hmn (ds := fs) h
theorem lowL_le {m n : Nat} (hmn : m ≤ n) : ∀ {ds : List D}, lowL m ds = true → lowL n ds = true
  | [], _ => rfl
  | d :: ds, h => Bool.and_eq_true_iff.mpr ⟨low_le hmn (Bool.and_eq_true_iff.mp h).1, lowL_le hmn (Bool.and_eq_true_iff.mp h).2⟩
theorem lowK_le {m n : Nat} (hmn : m ≤ n) : ∀ {ds : List (Key × D)}, lowK m ds = true → lowK n ds = true
  | [], _ => rfl
  | (_, d) :: ds, h => Bool.and_eq_true_iff.mpr ⟨low_le hmn (Bool.and_eq_true_iff.mp h).1, lowK_le hmn (Bool.and_eq_true_iff.mp h).2⟩
theorem lowF_le {m n : Nat} (hmn : m ≤ n) : ∀ {ds : List (Str × D)}, lowF m ds = true → lowF n ds = true
  | [], _ => rfl
  | (_, d) :: ds, h => Bool.and_eq_true_iff.mpr ⟨low_le hmn (Bool.and_eq_true_iff.mp h).1, lowF_le hmn (Bool.and_eq_true_iff.mp h).2⟩
end
theorem lowC_le {m n : Nat} (hmn : m ≤ n) {c : Cell} (h : lowC m c = true) : lowC n c = true := by
  cases c with
  | lst ds => exact lowL_le hmn (ds := ds) h
  | dic kvs => exact lowK_le hmn (ds := kvs) h
  | obj c fs => exact lowF_le hmn (ds := fs) h
  | dkl kvs => exact lowK_le hmn (ds := kvs) h
  | dt kvs => exact lowL_le hmn (ds := kvs.map fun p : List Key × D => p.2) h
  | dtl kvs => exact lowL_le hmn (ds := kvs.map fun p : List Key × D => p.2) h
theorem frz_low {n : Nat} {h : List Cell} {f : Nat} {d : D} (q : low n d = true) : frz n h f d = some d := by
  cases f <;> (unfold frz; rw [if_pos q])
theorem frz_lows {n : Nat} {h : List Cell} {f : Nat} : ∀ {ds : List D}, lowL n ds = true → mapO (frz n h f) ds = some ds
  | [], _ => rfl
  | d :: ds, q => by
    obtain ⟨a, b⟩ := Bool.and_eq_true_iff.mp (show (low n d && lowL n ds) = true from q)
    unfold mapO
    rw [frz_low a, frz_lows b]
theorem zip_self {α β : Type} : ∀ l : List (α × β), (l.map (·.1)).zip (l.map (·.2)) = l
  | [] => rfl
  | (a, b) :: l => by simp [zip_self l]
theorem frzC_low {n : Nat} {h : List Cell} {c : Cell} (q : lowC n c = true) : frzC n h c = some c := by
  cases c with
  | lst ds => unfold frzC; simp only; rw [frz_lows (ds := ds) q]; rfl
  | dic kvs => unfold frzC; simp only; rw [frz_lows (lowK_L (kvs := kvs) q)]; simp [zip_self]
  | obj c fs => unfold frzC; simp only; rw [frz_lows (lowF_L (kvs := fs) q)]; simp [zip_self]
  | dkl kvs => unfold frzC; simp only; rw [frz_lows (lowK_L (kvs := kvs) q)]; simp [zip_self]
  | dt kvs => unfold frzC; simp only; rw [frz_lows (ds := kvs.map fun p : List Key × D => p.2) q]; simp [zip_self]
  | dtl kvs => unfold frzC; simp only; rw [frz_lows (ds := kvs.map fun p : List Key × D => p.2) q]; simp [zip_self]
theorem frzC_lows {n : Nat} {h : List Cell} : ∀ {cs : List Cell}, (∀ c ∈ cs, lowC n c = true) → mapO (frzC n h) cs = some cs
  | [], _ => rfl
  | c :: cs, q => by
    unfold mapO
    rw [frzC_low (q c List.mem_cons_self), frzC_lows fun c hc => q c (List.mem_cons_of_mem _ hc)]
/-- a heap without ties -/
def FlatH (h : List Cell) : Prop := ∀ c ∈ h, lowC h.length c = true
theorem FlatH.nil : FlatH [] := fun _ h => by cases h
theorem FlatH.cons {c : Cell} {h : List Cell} (a : lowC 0 c = true) (b : FlatH h) : FlatH (c :: h) := fun x hx => by
  rcases List.mem_cons.mp hx with e | hx
  · rw [e]; exact lowC_le (Nat.zero_le _) a
  · exact lowC_le (by rw [List.length_cons]; omega) (b x hx)
theorem FlatH.lows {n : Nat} {h : List Cell} (f : FlatH (h.take n)) (hn : n ≤ h.length) : ∀ c ∈ h.take n, lowC n c = true := fun c hc => by
  have := f c hc
  rwa [List.length_take, Nat.min_eq_left hn] at this
theorem cut_flat {n : Nat} {h : List Cell} {d : D} (hd : low 0 d = true) (hf : FlatH (h.take n)) (hn : n ≤ h.length) : cut n h d = some (d, h.take n) := by
  unfold cut
  rw [frz_low (low_le (Nat.zero_le n) hd), frzC_lows (FlatH.lows hf hn)]
  simp [hn]
/-- what a body's end is to be -/
def endP (n : Nat) (Q : D → List Cell → Prop) : D → List Cell → Prop := fun d h => low 0 d = true ∧ n ≤ h.length ∧ FlatH (h.take n) ∧ Q d (h.take n)
def fnPost (n : Nat) (Q E : D → List Cell → Prop) : SPost := ⟨fun _ h => endP n Q .non h, endP n Q, fun _ _ => False, fun _ _ => False, fun e _ h => endP n E e h⟩
theorem fp_rt {n : Nat} {Q E : D → List Cell → Prop} : (fnPost n Q E).rt = endP n Q := rfl
theorem fp_nx {n : Nat} {Q E : D → List Cell → Prop} : (fnPost n Q E).nx = fun _ h => endP n Q .non h := rfl
theorem fp_ex {n : Nat} {Q E : D → List Cell → Prop} : (fnPost n Q E).ex = fun e _ h => endP n E e h := rfl
theorem wp_fnD {N : Nat} {b : DS} {ds : List D} {h : List Cell} {Q E : D → List Cell → Prop} (x : ws (b (env0 N ds) h) (fnPost h.length Q E)) : wp (fnD N b ds h) Q E := by
  unfold fnD fnB
  cases e : b (env0 N ds) h with
  | nx env h' =>
    rw [e] at x
    obtain ⟨a, b, c, d⟩ := (show endP h.length Q .non h' from x)
    simp only [doneS, trim, cut_flat a c b]
    exact d
  | rt d h' =>
    rw [e] at x
    obtain ⟨a, b, c, d⟩ := (show endP h.length Q d h' from x)
    simp only [doneS, trim, cut_flat a c b]
    exact d
  | bk env h' => rw [e] at x; exact x.elim
  | ct env h' => rw [e] at x; exact x.elim
  | exc d env h' =>
    rw [e] at x
    obtain ⟨a, b, c, d⟩ := (show endP h.length E d h' from x)
    simp only [doneS, trim, cut_flat a c b]
    exact d
  | bad => rw [e] at x; exact x.elim
/-- a result, as an equation -/
theorem wp_eq {α : Type} {r : R α} {d : α} {h : List Cell} (x : wp r (fun a h' => a = d ∧ h' = h) (fun _ _ => False)) : r = .ok d h := by
  cases r with
  | ok a h' => obtain ⟨rfl, rfl⟩ := x; rfl
  | exc e h' => exact x.elim
  | bad => exact x.elim
theorem endP_same {h : List Cell} {Q : D → List Cell → Prop} {d : D} (hf : FlatH h) (hd : low 0 d = true) (q : Q d h) : endP h.length Q d h := ⟨hd, Nat.le_refl _, by rw [List.take_length]; exact hf, by rw [List.take_length]; exact q⟩
/-- a def that gives a cell -/
def endC (n : Nat) (Q : D → List Cell → Prop) : D → List Cell → Prop := fun d h => match d with
  | .ref k => onO h[k]? fun c => n ≤ k ∧ n ≤ h.length ∧ lowC 0 c = true ∧ FlatH (h.take n) ∧ Q (.ref n) (h.take n ++ [c])
  | _ => False
theorem wp_fnC {N : Nat} {b : DS} {ds : List D} {h : List Cell} {Q E : D → List Cell → Prop} (x : ws (b (env0 N ds) h) ⟨fun _ _ => False, endC h.length Q, fun _ _ => False, fun _ _ => False, fun e _ h' => endP h.length E e h'⟩) : wp (fnC N b ds h) Q E := by
  unfold fnC fnB
  cases e : b (env0 N ds) h with
  | nx env h' => rw [e] at x; exact x.elim
  | rt d h' =>
    rw [e] at x
    have x' : endC h.length Q d h' := x
    unfold endC at x'
    cases d with
    | ref k =>
      simp only at x'
      cases hk : h'[k]? with
      | none => rw [hk] at x'; exact x'.elim
      | some c =>
        rw [hk] at x'
        obtain ⟨h1, h2, h3, h4, h5⟩ := x'
        simp only [doneS, trimC, hk]
        rw [if_pos ⟨h1, h2, lowC_le (Nat.zero_le _) h3, List.all_eq_true.mpr (FlatH.lows h4 h2)⟩]
        exact h5
    | _ => exact x'.elim
  | bk env h' => rw [e] at x; exact x.elim
  | ct env h' => rw [e] at x; exact x.elim
  | exc d env h' =>
    rw [e] at x
    obtain ⟨a, b, c, d⟩ := (show endP h.length E d h' from x)
    simp only [doneS, trimC, trim, cut_flat a c b]
    exact d
  | bad => rw [e] at x; exact x.elim

/-! ### what is walked -/
section
variable {Q : D → List Cell → Prop} {E : D → List Cell → Prop} {P : SPost} {env : En} {h : List Cell}
theorem wp_it {d : DE} {Q : List D × GdT → List Cell → Prop} : wp (cIt d env h) Q E = wp (d env h) (fun x h1 => onO (rowIt h1 x) fun p => Q p h1) E := by
  unfold cIt
  rw [wp_bind]
  congr 1
  funext x h1
  cases rowIt h1 x <;> rfl
theorem row_tup {ds : List D} : rowIt h (.tup ds) = some (ds, none) := rfl
theorem row_lst {ds : List D} : rowIt h (.lst ds) = some (ds, none) := rfl
theorem wp_itRg {ds : DEs} {Q : List D × GdT → List Cell → Prop} : wp (cItRg ds env h) Q E = wp (ds env h) (fun xs h1 => onO (rowRg xs) fun p => (-(2 ^ 62) ≤ p.1 ∧ p.1 < 2 ^ 62 ∧ -(2 ^ 62) ≤ p.2 ∧ p.2 < 2 ^ 62) ∧ Q ((rgI p.1 p.2).map .int, none) h1) E := by
  unfold cItRg
  rw [wp_bind]
  congr 1
  funext x h1
  cases rowRg x with
  | none => rfl
  | some p =>
    show wp (if _ then _ else _) Q E = _
    rw [wp_if]
    split
    · rename_i hz; exact propext ⟨fun z => ⟨hz, z⟩, fun z => z.2⟩
    · rename_i hz; exact (eq_false (fun z => hz z.1)).symm
theorem rg_one' {j : Int} : rowRg [.int j] = some (0, j) := rfl
theorem rg_two' {i j : Int} : rowRg [.int i, .int j] = some (i, j) := rfl
theorem wp_comp {it : DI} {vs : List Nat} {tg : DG} {tt : DT} {te : DE} : wp (cComp it vs tg tt te env h) Q E = wp (it env h) (fun p h1 => wp (compL p.2 p.1 tg tt te (wipeE env vs) p.1 h1) (fun ds h2 => ds.length ≤ sizeLine ∧ Q (.lst ds) h2) (fun _ _ => False)) E := by
  unfold cComp
  rw [wp_bind]
  congr 1
  funext p h1
  cases compL p.2 p.1 tg tt te (wipeE env vs) p.1 h1 with
  | ok ds h2 =>
    show wp (if _ then _ else _) Q E = _
    rw [wp_if]
    split
    · rename_i hz; simp [wp, hz]
    · rename_i hz; simp [wp, hz]
  | exc e h2 => rfl
  | bad => rfl
theorem wp_compC {it : DI} {vs : List Nat} {tg : DG} {tt : DT} {te : DE} : wp (cCompC it vs tg tt te env h) Q E = wp (it env h) (fun p h1 => wp (compL p.2 p.1 tg tt te (wipeE env vs) p.1 h1) (fun ds h2 => ds.length ≤ sizeLine ∧ Q (.ref h2.length) (h2 ++ [.lst ds])) (fun _ _ => False)) E := by
  unfold cCompC
  rw [wp_bind]
  congr 1
  funext p h1
  cases compL p.2 p.1 tg tt te (wipeE env vs) p.1 h1 with
  | ok ds h2 =>
    show wp (if _ then _ else _) Q E = _
    rw [wp_if]
    split
    · rename_i hz; simp [wp, hz]
    · rename_i hz; simp [wp, hz]
  | exc e h2 => rfl
  | bad => rfl
theorem ws_for {it : DI} {tg : DG} {body : DS} : ws (sFor it tg body env h) P = wp (it env h) (fun p h1 => ws (forL p.2 p.1 tg body p.1 env h1) P) (fun e h => P.ex e env h) := ws_lift
/-- a loop, by what is left -/
theorem for_rem {all : List D} {tg : DG} {body : DS} {I : List D → En → List Cell → Prop} (step : ∀ x r env h, I (x :: r) env h → ∃ env1, tg x env h = some env1 ∧ ws (body env1 h) ⟨I r, P.rt, P.nx, I r, P.ex⟩) (fin : ∀ env h, I [] env h → P.nx env h) :
    ∀ {xs : List D} {env : En} {h : List Cell}, I xs env h → ws (forL none all tg body xs env h) P := by
  intro xs
  induction xs with
  | nil => intro env h hI; unfold forL; rw [if_pos (show Guard none all h from True.intro)]; exact fin env h hI
  | cons x xs ih =>
    intro env h hI
    obtain ⟨env1, e1, e2⟩ := step x xs env h hI
    unfold forL
    rw [if_pos (show Guard none all h from True.intro)]
    simp only [e1]
    cases e : body env1 h with
    | nx env' h' => rw [e] at e2; exact ih e2
    | ct env' h' => rw [e] at e2; exact ih e2
    | bk env' h' => rw [e] at e2; exact e2
    | rt d h' => rw [e] at e2; exact e2
    | exc d env' h' => rw [e] at e2; exact e2
    | bad => rw [e] at e2; exact e2.elim
theorem for_inv {all xs : List D} {tg : DG} {body : DS} {I : En → List Cell → Prop} (hI : I env h) (step : ∀ x ∈ xs, ∀ env h, I env h → ∃ env1, tg x env h = some env1 ∧ ws (body env1 h) ⟨I, P.rt, P.nx, I, P.ex⟩) (fin : ∀ env h, I env h → P.nx env h) : ws (forL none all tg body xs env h) P := by
  refine for_rem (I := fun r env h => (∀ x ∈ r, x ∈ xs) ∧ I env h) (fun x r env h ⟨a, b⟩ => ?_) (fun env h z => fin env h z.2) ⟨fun _ z => z, hI⟩
  obtain ⟨env1, e1, e2⟩ := step x (a x List.mem_cons_self) env h b
  have hr : ∀ y ∈ r, y ∈ xs := fun y hy => a y (List.mem_cons_of_mem _ hy)
  refine ⟨env1, e1, ?_⟩
  cases e : body env1 h with
  | nx env' h' => rw [e] at e2; exact ⟨hr, e2⟩
  | ct env' h' => rw [e] at e2; exact ⟨hr, e2⟩
  | bk env' h' => rw [e] at e2; exact e2
  | rt d h' => rw [e] at e2; exact e2
  | exc d env' h' => rw [e] at e2; exact e2
  | bad => rw [e] at e2; exact e2.elim
theorem gN_eq {i : Nat} {x : D} : gN i x env h = some (env.set i (some x)) := rfl
end
end
end DL

namespace DL
noncomputable section
open PySem PySem.Spec PyProof.Rows L2

/-! ### how long a text is -/
mutual
def wt : D → Nat
  | .int i => i.natAbs.log2 + 4
  | .str s => (reprText s).length
  | .tup ds => wtL ds + 3
  | .lst ds => wtL ds + 3
  | .dic kvs => wtK kvs + 3
  | _ => 5
def wtL : List D → Nat
  | [] => 0
  | d :: ds => wt d + 2 + wtL ds
def wtK : List (Key × D) → Nat
  | [] => 0
  | (k, d) :: ds => (match k with | .inl i => i.natAbs.log2 + 4 | .inr s => (reprText s).length) + wt d + 4 + wtK ds
end
mutual
def pdB : D → Bool
  | .int i => decide (i.natAbs.log2 < 1920)
  | .tup ds => pdL ds
  | .lst ds => pdL ds
  | .dic kvs => pdK kvs
  | .obj _ _ => false
  | .ref _ => false
  | .err _ _ => false
  | .xo _ _ => false
  | _ => true
def pdL : List D → Bool
  | [] => true
  | d :: ds => pdB d && pdL ds
def pdK : List (Key × D) → Bool
  | [] => true
  | (k, d) :: ds => (match k with | .inl i => decide (i.natAbs.log2 < 1920) | .inr _ => true) && pdB d && pdK ds
end
mutual
def dp : D → Nat
  | .tup ds => dpL ds + 1
  | .lst ds => dpL ds + 1
  | .dic kvs => dpK kvs + 1
  | _ => 0
def dpL : List D → Nat
  | [] => 0
  | d :: ds => max (dp d) (dpL ds)
def dpK : List (Key × D) → Nat
  | [] => 0
  | (_, d) :: ds => max (dp d) (dpK ds)
end
theorem shown_int {i : Int} : (PyData.shown (.int i)).length ≤ i.natAbs.log2 + 4 := by
  have := int_text_length_le (a := i) (k := i.natAbs.log2 + 1) (by omega) (by omega)
  show (Str.ofString (toString i)).length ≤ _
  rw [PySem.ofString_length]
  omega
theorem shownAll_sum : ∀ ps : List PyData, (PyData.shownAll ps).length = ps.length
  | [] => rfl
  | p :: ps => by simp only [PyData.shownAll, List.length_cons, shownAll_sum ps]
mutual
theorem toP_ok : ∀ d : D, pdB d = true → ∃ p, d.toP = some p ∧ p.showable = true ∧ p.depth ≤ dp d ∧ p.shown.length ≤ wt d
  | .non, _ => ⟨_, rfl, rfl, Nat.le_refl _, show (4 : Nat) ≤ 5 by decide⟩
  | .bl b, _ => ⟨_, rfl, rfl, Nat.le_refl _, by cases b <;> decide⟩
  | .int i, h => ⟨_, rfl, h, Nat.le_refl _, shown_int⟩
  | .str s, _ => ⟨_, rfl, rfl, Nat.le_refl _, Nat.le_refl _⟩
  | .tup ds, h => by
    obtain ⟨ps, e1, e2, e3, e4⟩ := toPs_ok ds (show pdL ds = true from h)
    refine ⟨.tuple ps, by show (toPs ds).map PyData.tuple = _; rw [e1] <;> rfl, e2, Nat.succ_le_succ e3, ?_⟩
    have := tupleText_len_le (PyData.shownAll ps)
    rw [shownAll_sum] at this
    exact Nat.le_trans this (by show _ ≤ wtL ds + 3; omega)
  | .lst ds, h => by
    obtain ⟨ps, e1, e2, e3, e4⟩ := toPs_ok ds (show pdL ds = true from h)
    refine ⟨.list ps, by show (toPs ds).map PyData.list = _; rw [e1] <;> rfl, e2, Nat.succ_le_succ e3, ?_⟩
    have := listText_len_le (PyData.shownAll ps)
    rw [shownAll_sum] at this
    exact Nat.le_trans this (by show _ ≤ wtL ds + 3; omega)
  | .dic kvs, h => by
    obtain ⟨ps, e1, e2, e3, e4⟩ := toPk_ok kvs (show pdK kvs = true from h)
    refine ⟨.dict ps, by show (toPk kvs).map PyData.dict = _; rw [e1] <;> rfl, e2, Nat.succ_le_succ e3, ?_⟩
    have := dictText_len_le (PyData.shownKv ps)
    rw [PyData.shownKv_length] at this
    exact Nat.le_trans this (by show _ ≤ wtK kvs + 3; omega)
  | .obj _ _, h => by cases h
  | .ref _, h => by cases h
  | .err _ _, h => by cases h
  | .xo _ _, h => by cases h
theorem toPs_ok : ∀ ds : List D, pdL ds = true → ∃ ps, toPs ds = some ps ∧ PyData.showableAll ps = true ∧ PyData.depthAll ps ≤ dpL ds ∧ ((PyData.shownAll ps).map (·.length)).sum + 2 * ps.length ≤ wtL ds
  | [], _ => ⟨[], rfl, rfl, Nat.le_refl _, Nat.le_refl _⟩
  | d :: ds, h => by
    obtain ⟨h1, h2⟩ := Bool.and_eq_true_iff.mp (show (pdB d && pdL ds) = true from h)
    obtain ⟨p, a1, a2, a3, a4⟩ := toP_ok d h1
    obtain ⟨ps, b1, b2, b3, b4⟩ := toPs_ok ds h2
    refine ⟨p :: ps, by unfold toPs; rw [a1, b1], Bool.and_eq_true_iff.mpr ⟨a2, b2⟩, ?_, ?_⟩
    · show max _ _ ≤ max _ _
      omega
    · show _ ≤ wt d + 2 + wtL ds
      simp only [PyData.shownAll, List.map_cons, List.sum_cons, List.length_cons]
      omega
theorem toPk_ok : ∀ kvs : List (Key × D), pdK kvs = true → ∃ ps, toPk kvs = some ps ∧ PyData.showableKv ps = true ∧ PyData.depthKv ps ≤ dpK kvs ∧ ((PyData.shownKv ps).map (·.length)).sum + 2 * ps.length ≤ wtK kvs
  | [], _ => ⟨[], rfl, rfl, Nat.le_refl _, Nat.le_refl _⟩
  | (k, d) :: kvs, h => by
    obtain ⟨h1, h2⟩ := Bool.and_eq_true_iff.mp h
    obtain ⟨h0, h1⟩ := Bool.and_eq_true_iff.mp h1
    obtain ⟨p, a1, a2, a3, a4⟩ := toP_ok d h1
    obtain ⟨ps, b1, b2, b3, b4⟩ := toPk_ok kvs h2
    have e2 : ((keyP k).shown ++ ": " ++ p.shown).length = (keyP k).shown.length + 2 + p.shown.length := by
      rw [strLen_append, strLen_append]; rfl
    cases k with
    | inl i =>
      refine ⟨(.int i, p) :: ps, by unfold toPk; rw [a1, b1], Bool.and_eq_true_iff.mpr ⟨Bool.and_eq_true_iff.mpr ⟨h0, a2⟩, b2⟩, ?_, ?_⟩
      · show max (max 0 _) _ ≤ max _ _
        omega
      · have : (keyP (.inl i)).shown.length ≤ i.natAbs.log2 + 4 := shown_int
        simp only [PyData.shownKv, List.map_cons, List.sum_cons, List.length_cons, wtK]
        simp only [keyP] at e2 this
        omega
    | inr s =>
      refine ⟨(.str s, p) :: ps, by unfold toPk; rw [a1, b1], Bool.and_eq_true_iff.mpr ⟨Bool.and_eq_true_iff.mpr ⟨rfl, a2⟩, b2⟩, ?_, ?_⟩
      · show max (max 0 _) _ ≤ max _ _
        omega
      · have : (keyP (.inr s)).shown.length = (reprText s).length := rfl
        simp only [PyData.shownKv, List.map_cons, List.sum_cons, List.length_cons, wtK]
        simp only [keyP] at e2 this
        omega
end
mutual
theorem pd_low : ∀ d : D, pdB d = true → low 0 d = true
  | .non, _ => rfl
  | .bl _, _ => rfl
  | .int _, _ => rfl
  | .str _, _ => rfl
  | .tup ds, h => pd_lowL ds h
  | .lst ds, h => pd_lowL ds h
  | .dic kvs, h => pd_lowK kvs h
  | .obj _ _, h => by cases h
  | .ref _, h => by cases h
  | .err _ _, h => by cases h
  | .xo _ _, h => by cases h
theorem pd_lowL : ∀ ds : List D, pdL ds = true → lowL 0 ds = true
  | [], _ => rfl
  | d :: ds, h => Bool.and_eq_true_iff.mpr ⟨pd_low d (Bool.and_eq_true_iff.mp h).1, pd_lowL ds (Bool.and_eq_true_iff.mp h).2⟩
theorem pd_lowK : ∀ kvs : List (Key × D), pdK kvs = true → lowK 0 kvs = true
  | [], _ => rfl
  | (k, d) :: ds, h => by
    obtain ⟨h1, h2⟩ := Bool.and_eq_true_iff.mp h
    exact Bool.and_eq_true_iff.mpr ⟨pd_low d (Bool.and_eq_true_iff.mp h1).2, pd_lowK ds h2⟩
end
theorem pdL_iff {ds : List D} : pdL ds = true ↔ ∀ d ∈ ds, pdB d = true := by
  induction ds with
  | nil => simp [pdL]
  | cons d ds ih => simp [pdL, ih]
theorem lowL_iff {n : Nat} {ds : List D} : lowL n ds = true ↔ ∀ d ∈ ds, low n d = true := by
  induction ds with
  | nil => simp [lowL]
  | cons d ds ih => simp [lowL, ih]
theorem wtL_mem {d : D} {ds : List D} (h : d ∈ ds) : wt d + 2 ≤ wtL ds := by
  induction ds with
  | nil => cases h
  | cons e ds ih =>
    simp only [wtL]
    rcases List.mem_cons.mp h with z | z
    · rw [z]; omega
    · have := ih z; omega
theorem wtL_le {ds : List D} {b n : Nat} (h : ∀ d ∈ ds, wt d ≤ b) (hn : ds.length ≤ n) : wtL ds ≤ n * (b + 2) := by
  have : wtL ds ≤ ds.length * (b + 2) := by
    clear hn
    induction ds with
    | nil => simp [wtL]
    | cons d ds ih =>
      have h1 := h d List.mem_cons_self
      have h2 := ih fun e he => h e (List.mem_cons_of_mem _ he)
      simp only [wtL, List.length_cons, Nat.succ_mul]
      omega
  exact Nat.le_trans this (Nat.mul_le_mul_right _ hn)
theorem dpL_le {ds : List D} {k : Nat} : dpL ds ≤ k ↔ ∀ d ∈ ds, dp d ≤ k := by
  induction ds with
  | nil => simp [dpL]
  | cons d ds ih =>
    simp only [dpL, List.mem_cons, forall_eq_or_imp]
    rw [← ih]
    omega
/-- plain data of so long a text, so deep -/
structure Fit (n k : Nat) (d : D) : Prop where
  pd : pdB d = true
  wt : wt d ≤ n
  dp : dp d ≤ k
theorem Fit.mono {n k m l : Nat} {d : D} (f : Fit n k d) (h1 : n ≤ m) (h2 : k ≤ l) : Fit m l d := ⟨f.pd, Nat.le_trans f.wt h1, Nat.le_trans f.dp h2⟩
theorem Fit.low {n k : Nat} {d : D} (f : Fit n k d) : low 0 d = true := pd_low d f.pd
/-- many of them -/
structure FitL (n k : Nat) (ds : List D) : Prop where
  pd : pdL ds = true
  wt : wtL ds ≤ n
  dp : dpL ds ≤ k
theorem FitL.low {n k : Nat} {ds : List D} (f : FitL n k ds) : lowL 0 ds = true := pd_lowL ds f.pd
theorem FitL.mono {n k m l : Nat} {ds : List D} (f : FitL n k ds) (h1 : n ≤ m) (h2 : k ≤ l) : FitL m l ds := ⟨f.pd, Nat.le_trans f.wt h1, Nat.le_trans f.dp h2⟩
theorem FitL.nil {n k : Nat} : FitL n k [] := ⟨rfl, Nat.zero_le _, Nat.zero_le _⟩
theorem FitL.cons {n m k : Nat} {d : D} {ds : List D} (a : Fit n k d) (b : FitL m k ds) : FitL (n + 2 + m) k (d :: ds) :=
  ⟨Bool.and_eq_true_iff.mpr ⟨a.pd, b.pd⟩, by have := a.wt; have := b.wt; simp only [DL.wtL]; omega, by have := a.dp; have := b.dp; simp only [dpL]; omega⟩
theorem FitL.of {n b k : Nat} {ds : List D} (h : ∀ d ∈ ds, Fit b k d) (hn : ds.length ≤ n) : FitL (n * (b + 2)) k ds :=
  ⟨pdL_iff.mpr fun d hd => (h d hd).pd, wtL_le (fun d hd => (h d hd).wt) hn, dpL_le.mpr fun d hd => (h d hd).dp⟩
theorem FitL.mem {n k : Nat} {ds : List D} (f : FitL n k ds) {d : D} (h : d ∈ ds) : Fit n k d :=
  ⟨pdL_iff.mp f.pd d h, by have := wtL_mem h; have := f.wt; omega, dpL_le.mp f.dp d h⟩
theorem Fit.tup {n k : Nat} {ds : List D} (f : FitL n k ds) : Fit (n + 3) (k + 1) (.tup ds) := ⟨f.pd, Nat.add_le_add_right f.wt 3, Nat.succ_le_succ f.dp⟩
theorem Fit.lst {n k : Nat} {ds : List D} (f : FitL n k ds) : Fit (n + 3) (k + 1) (.lst ds) := ⟨f.pd, Nat.add_le_add_right f.wt 3, Nat.succ_le_succ f.dp⟩
theorem Fit.non {k : Nat} : Fit 5 k .non := ⟨rfl, Nat.le_refl _, Nat.zero_le _⟩
theorem Fit.bl {k : Nat} {b : Bool} : Fit 5 k (.bl b) := ⟨rfl, Nat.le_refl _, Nat.zero_le _⟩
theorem log2_lt {i : Int} {n : Nat} (hn : 0 < n) (h0 : -(2 ^ n) < i) (h1 : i < 2 ^ n) : i.natAbs.log2 < n := by
  by_cases z : i.natAbs = 0
  · rw [z]; exact hn
  · refine (Nat.log2_lt z).mpr ?_
    have e : ((2 ^ n : Nat) : Int) = (2 : Int) ^ n := by simp
    omega
theorem Fit.int {i : Int} {n k : Nat} (hn : 0 < n) (h2 : n ≤ 1920) (h0 : -(2 ^ n) < i) (h1 : i < 2 ^ n) : Fit (n + 3) k (.int i) := by
  have := log2_lt hn h0 h1
  exact ⟨decide_eq_true (by omega), by show i.natAbs.log2 + 4 ≤ n + 3; omega, Nat.zero_le _⟩
/-- repr of it -/
def shownD (d : D) : Str := match d.toP with
  | some p => p.shown
  | none => ""
theorem wp_reprF {n k : Nat} {d : D} {h : List Cell} {Q E : D → List Cell → Prop} (f : Fit n k d) (hn : n ≤ 16777216) (hk : k ≤ 60) (q : Q (.str (shownD d)) h) : wp (bRepr [d] h) Q E := by
  obtain ⟨p, e1, e2, e3, e4⟩ := toP_ok d f.pd
  rw [wp_repr, e1]
  have : shownD d = p.shown := by unfold shownD; rw [e1]
  rw [this] at q
  have := f.wt
  have := f.dp
  exact ⟨e2, by omega, by rw [sizeLine_eq]; omega, q⟩
theorem wp_neS {a b : Str} {h : List Cell} {Q E : D → List Cell → Prop} {neg : Bool} : wp (opEq neg (.str a) (.str b) h) Q E = Q (.bl (neg != decide (a = b))) h := by
  show Q (.bl (neg != PyData.eqv (.str a) (.str b))) h = _
  congr 3
end
end DL

namespace DL
noncomputable section
open PySem PySem.Spec PyProof.Rows L2
/-! ### the plain side: errors -/
section
variable {α : Type} {Q : D → List Cell → Prop} {E : D → List Cell → Prop} {P : SPost} {env : En} {h : List Cell}
theorem wp_ifb {β : Type} {c : Prop} [Decidable c] {r : R β} {Q : β → List Cell → Prop} {E : D → List Cell → Prop} : wp (if c then r else .bad) Q E = (c ∧ wp r Q E) := by
  split
  · rename_i z; exact propext ⟨fun y => ⟨z, y⟩, fun y => y.2⟩
  · rename_i z; exact (eq_false fun y => z y.1).symm
theorem wp_mulLst {a : List D} {k : Int} {E : D → List Cell → Prop} : wp (opMul (.lst a) (.int k) h) Q E = ((-(2 ^ 63) ≤ k ∧ k < 2 ^ 63 ∧ a.length * k.toNat ≤ sizeLine) ∧ Q (.lst (List.replicate k.toNat a).flatten) h) := wp_ifb
theorem ws_raise {c : Nat} {fs : List Str} {das : DEs} : ws (sRaise c fs das env h) P = wp (das env h) (fun xs h1 => (xs.length = fs.length ∧ xs.length ≤ 1000) ∧ P.ex (.obj c (fs.zip xs).reverse) env h1) (fun e h => P.ex e env h) := by
  unfold sRaise
  rw [ws_lift]
  congr 1
  funext xs h1
  split
  · rename_i z; exact propext ⟨fun y => ⟨z, y⟩, fun y => y.2⟩
  · rename_i z; exact (eq_false fun y => z y.1).symm
theorem ws_raise0 {c : Nat} : ws (sRaise0 c env h) P = P.ex (.obj c []) env h := rfl
def SPost.catch_ (P : SPost) (hs : List HD) : SPost := ⟨P.nx, P.rt, P.bk, P.ct, fun e env h => ws (DL.catch_ hs (.exc e env h)) P⟩
theorem ct_nx {hs : List HD} : (P.catch_ hs).nx = P.nx := rfl
theorem ct_rt {hs : List HD} : (P.catch_ hs).rt = P.rt := rfl
theorem ct_bk {hs : List HD} : (P.catch_ hs).bk = P.bk := rfl
theorem ct_ct {hs : List HD} : (P.catch_ hs).ct = P.ct := rfl
theorem ct_ex {hs : List HD} : (P.catch_ hs).ex = fun e env h => ws (DL.catch_ hs (.exc e env h)) P := rfl
theorem ws_try {b : DS} {hs : List HD} : ws (sTry b hs env h) P = ws (b env h) (P.catch_ hs) := by
  unfold sTry
  cases b env h <;> rfl
/-- behind a suite -/
def SPost.un (P : SPost) (i : Option Nat) : SPost :=
  ⟨fun env h => (lowE h.length (goneN i env) = true ∧ h.all (lowC h.length) = true) ∧ P.nx (goneN i env) h, fun d h => (low h.length d = true ∧ h.all (lowC h.length) = true) ∧ P.rt d h,
   fun env h => (lowE h.length (goneN i env) = true ∧ h.all (lowC h.length) = true) ∧ P.bk (goneN i env) h, fun env h => (lowE h.length (goneN i env) = true ∧ h.all (lowC h.length) = true) ∧ P.ct (goneN i env) h, fun _ _ _ => False⟩
theorem un_rt {i : Option Nat} : (P.un i).rt = fun d h => (low h.length d = true ∧ h.all (lowC h.length) = true) ∧ P.rt d h := rfl
theorem un_nx {i : Option Nat} : (P.un i).nx = fun env h => (lowE h.length (goneN i env) = true ∧ h.all (lowC h.length) = true) ∧ P.nx (goneN i env) h := rfl
def asE (d : D) (p : Nat → List (Str × D) → Prop) : Prop := match d with
  | .err c fs => p c fs
  | _ => False
theorem asE_err {c : Nat} {fs : List (Str × D)} {p : Nat → List (Str × D) → Prop} : asE (.err c fs) p = p c fs := rfl
theorem wp_errF {f : Str} {d : DE} : wp (cErrF f d env h) Q E = wp (d env h) (fun x h1 => asE x fun c fs => onO (fs.lookup f) fun v => 1000 ≤ c ∧ Q v h1) E := by
  unfold cErrF
  rw [wp_bind]
  congr 1
  funext x h1
  cases x with
  | err c fs =>
    show wp (match fs.lookup f with
      | some v => if c < 1000 then R.bad else .ok v h1
      | none => .bad) Q E = onO (fs.lookup f) fun v => 1000 ≤ c ∧ Q v h1
    cases fs.lookup f with
    | none => rfl
    | some v =>
      show wp (if c < 1000 then R.bad else .ok v h1) Q E = (1000 ≤ c ∧ Q v h1)
      rw [wp_if]
      split
      · rename_i z; exact (eq_false fun y => absurd y.1 (by omega)).symm
      · rename_i z; exact propext ⟨fun y => ⟨by omega, y⟩, fun y => y.2⟩
  | _ => rfl
theorem wp_errIs {ks : List Nat} {d : DE} : wp (cErrIs ks d env h) Q E = wp (d env h) (fun x h1 => asE x fun c _ => 1000 ≤ c ∧ Q (.bl (ks.contains c)) h1) E := by
  unfold cErrIs
  rw [wp_bind]
  congr 1
  funext x h1
  cases x with
  | err c fs =>
    show wp (if c < 1000 then R.bad else .ok (.bl (ks.contains c)) h1) Q E = (1000 ≤ c ∧ Q (.bl (ks.contains c)) h1)
    rw [wp_if]
    split
    · rename_i z; exact (eq_false fun y => absurd y.1 (by omega)).symm
    · rename_i z; exact propext ⟨fun y => ⟨by omega, y⟩, fun y => y.2⟩
  | _ => rfl
theorem wp_itZip {ds : DEs} {Q : List D × GdT → List Cell → Prop} : wp (cItZip ds env h) Q E = wp (ds env h) (fun xs h1 => onO (rowZip h1 xs) fun p => Q p h1) E := by
  unfold cItZip
  rw [wp_bind]
  congr 1
  funext xs h1
  cases rowZip h1 xs <;> rfl
theorem wp_tupRg1 {a : DE} : wp (cTupRg (cRg1 a) env h) Q E = wp (a env h) (fun x h1 => asI x fun i => RgOk 0 i ∧ Q (.tup ((rgI 0 i).map .int)) h1) E := by
  unfold cTupRg cRg1
  rw [wp_bind, wp_bind]
  congr 1
  funext x h1
  cases x <;> first | exact wp_ifb | rfl
theorem wp_lstRg1 {a : DE} : wp (cLstRg (cRg1 a) env h) Q E = wp (a env h) (fun x h1 => asI x fun i => RgOk 0 i ∧ Q (.lst ((rgI 0 i).map .int)) h1) E := by
  unfold cLstRg cRg1
  rw [wp_bind, wp_bind]
  congr 1
  funext x h1
  cases x <;> first | exact wp_ifb | rfl
theorem asI2 {x y : D} {p : Int → Int → Prop} : (asI x fun i => asI y fun j => p i j) = match x, y with | .int i, .int j => p i j | _, _ => False := by
  cases x <;> cases y <;> rfl
theorem wp_tupRg2 {a b : DE} : wp (cTupRg (cRg2 a b) env h) Q E = wp (a env h) (fun x h1 => wp (b env h1) (fun y h2 => asI x fun i => asI y fun j => RgOk i j ∧ Q (.tup ((rgI i j).map .int)) h2) E) E := by
  unfold cTupRg cRg2
  rw [wp_bind, wp_bind]
  congr 1
  funext x h1
  rw [wp_bind]
  congr 1
  funext y h2
  rw [asI2]
  cases x <;> cases y <;> first | exact wp_ifb | rfl
theorem wp_lstRg2 {a b : DE} : wp (cLstRg (cRg2 a b) env h) Q E = wp (a env h) (fun x h1 => wp (b env h1) (fun y h2 => asI x fun i => asI y fun j => RgOk i j ∧ Q (.lst ((rgI i j).map .int)) h2) E) E := by
  unfold cLstRg cRg2
  rw [wp_bind, wp_bind]
  congr 1
  funext x h1
  rw [wp_bind]
  congr 1
  funext y h2
  rw [asI2]
  cases x <;> cases y <;> first | exact wp_ifb | rfl
theorem zip_tt {a b : List D} : rowZip h [.tup a, .tup b] = some (pairUp a b, none) := rfl
theorem zip_ll {a b : List D} : rowZip h [.lst a, .lst b] = some (pairUp a b, none) := rfl
end
theorem intsOf_map : ∀ xs : List Int, intsOf (xs.map D.int) = some xs
  | [] => rfl
  | x :: xs => by
    show (intsOf (xs.map .int)).map (x :: ·) = _
    rw [intsOf_map xs]
    rfl
theorem wp_sumL {xs : List Int} {h : List Cell} {Q E : D → List Cell → Prop} : wp (bSum [.lst (xs.map .int)] h) Q E = Q (.int xs.sum) h := by
  show wp (match intsOf (xs.map .int) with | some bs => R.ok (D.int bs.sum) h | none => .bad) Q E = _
  rw [intsOf_map]
  rfl
end
end DL

namespace DL
noncomputable section
open PySem PySem.Spec PyProof.Rows L2
section
variable {Q : D → List Cell → Prop} {E : D → List Cell → Prop} {P : SPost} {env : En} {h : List Cell}
/-! not by rfl: the kernel is not to run what comes next -/
theorem wp_okN {α : Type} {a : α} {h : List Cell} {Q : α → List Cell → Prop} {E : D → List Cell → Prop} : wp (.ok a h) Q E = Q a h := propext ⟨fun x => x, fun x => x⟩
theorem wp_excN {α : Type} {e : D} {h : List Cell} {Q : α → List Cell → Prop} {E : D → List Cell → Prop} : wp (.exc e h : R α) Q E = E e h := propext ⟨fun x => x, fun x => x⟩
theorem ws_nxN : ws (.nx env h) P = P.nx env h := propext ⟨fun x => x, fun x => x⟩
theorem ws_rtN {d : D} : ws (.rt d h) P = P.rt d h := propext ⟨fun x => x, fun x => x⟩
theorem ws_while {t : DT} {b : DS} : ws (sWhile t b env h) P = ws (whl t b 1000 env h) P := rfl
theorem wp_itEn {ds : DEs} {Q : List D × GdT → List Cell → Prop} : wp (cItEn ds env h) Q E = wp (ds env h) (fun xs h1 => onO (rowEn xs) fun p => Q (p, none) h1) E := by
  unfold cItEn
  rw [wp_bind]
  congr 1
  funext xs h1
  cases rowEn xs <;> rfl
theorem row_en {a : List D} : rowEn [.lst a] = some (enumD a) := rfl
theorem ws_augI {i : Nat} {f : Int → Int → Int} {d : DE} : ws (sAugI i f d env h) P = onO (getE env i) (fun x => wp (d env h) (fun y h1 => asI x fun a => asI y fun b => P.nx (env.set i (some (.int (f a b)))) h1) (fun e h => P.ex e env h)) := by
  unfold sAugI getE
  cases e : env[i]? with
  | none => rfl
  | some o =>
    cases o with
    | none => rfl
    | some x =>
      show ws (liftS _ _ _) P = wp _ _ _
      rw [ws_lift]
      congr 1
      funext y h1
      cases x <;> cases y <;> rfl
end
end
end DL

namespace DL
noncomputable section
open PySem PySem.Spec PyProof.Rows L2
open PySem.W (alike alikeAll AllAlike Sortable dataLe dataLt)
section
variable {Q : D → List Cell → Prop} {E : D → List Cell → Prop} {P : SPost} {env : En} {h : List Cell}
/-! ### own classes, as data -/
theorem wp_fld {c : Nat} {f : Str} {d : DE} : wp (cFld c f d env h) Q E = wp (d env h) (fun x h1 => onO (ownOf c h1 x) fun fs => onO (fs.lookup f) fun v => Q v h1) E := by
  unfold cFld
  rw [wp_bind]
  congr 1
  funext x h1
  cases ownOf c h1 x with
  | none => rfl
  | some fs =>
    show wp (match fs.lookup f with | some v => R.ok v h1 | none => .bad) Q E = onO (fs.lookup f) fun v => Q v h1
    cases fs.lookup f <;> rfl
theorem wp_meth {c n : Nat} {m : Str} {F : DF} {d : DE} {das : DEs} : wp (cMeth c m F n d das env h) Q E = wp (d env h) (fun x h1 => onO (ownOf c h1 x) fun fs => (fs.lookup m).isNone = true ∧ wp (das env h1) (fun ys h2 => ys.length + 1 = n ∧ wp (F (x :: ys) h2) Q E) E) E := by
  unfold cMeth
  rw [wp_bind]
  congr 1
  funext x h1
  cases ownOf c h1 x with
  | none => rfl
  | some fs =>
    show wp (if (fs.lookup m).isNone = true then (das env h1).bind fun ys h2 => (if ys.length + 1 = n then F (x :: ys) h2 else .bad) else .bad) Q E = _
    rw [wp_ifb, onO_some, wp_bind]
    congr 2
    funext ys h2
    rw [wp_ifb]
theorem wp_prop {c : Nat} {F : DF} {d : DE} : wp (cProp c F d env h) Q E = wp (d env h) (fun x h1 => onO (ownOf c h1 x) fun _ => wp (F [x] h1) Q (fun _ _ => False)) E := by
  unfold cProp
  rw [wp_bind]
  congr 1
  funext x h1
  cases ownOf c h1 x with
  | none => rfl
  | some fs =>
    show wp (match F [x] h1 with | .exc _ _ => .bad | r => r) Q E = wp (F [x] h1) Q (fun _ _ => False)
    cases F [x] h1 <;> rfl
theorem wp_make {c n : Nat} {F : DF} {das : DEs} : wp (cMake c F n das env h) Q E = wp (das env h) (fun ys h1 => ys.length + 1 = n ∧ wp (trim h1.length (mkInit c F ys h1)) Q E) E := by
  unfold cMake
  rw [wp_bind]
  congr 1
  funext ys h1
  rw [wp_ifb]
theorem ws_fldS {c : Nat} {f : Str} {o e : DE} : ws (sFldS c f o e env h) P = wp (e env h) (fun v h1 => wp (o env h1) (fun x h2 => onO (putC c f x v h2) fun h3 => P.nx env h3) (fun e h => P.ex e env h)) (fun e h => P.ex e env h) := by
  unfold sFldS
  rw [ws_lift]
  congr 1
  funext v h1
  rw [ws_lift]
  congr 1
  funext x h2
  cases putC c f x v h2 <;> rfl
theorem own_obj {c : Nat} {fs : List (Str × D)} : ownOf c h (.obj c fs) = some fs := if_pos rfl
/-! ### whole numbers in rows, rows of rows -/
def ptI (xs : List Int) : PyData := .tuple (xs.map .int)
def plI (xs : List Int) : PyData := .list (xs.map .int)
theorem eqvI : ∀ {xs ys : List Int}, PyData.eqvAll (xs.map .int) (ys.map .int) = decide (xs = ys)
  | [], [] => rfl
  | [], y :: ys => rfl
  | x :: xs, [] => rfl
  | x :: xs, y :: ys => by
    show (PyData.eqv (.int x) (.int y) && PyData.eqvAll (xs.map .int) (ys.map .int)) = _
    rw [eqvI]
    show ((x == y) && decide (xs = ys)) = _
    rw [Bool.eq_iff_iff]
    simp
theorem eqvT : ∀ {xs ys : List (List Int)}, PyData.eqvAll (xs.map ptI) (ys.map ptI) = decide (xs = ys)
  | [], [] => rfl
  | [], y :: ys => rfl
  | x :: xs, [] => rfl
  | x :: xs, y :: ys => by
    show (PyData.eqvAll (x.map .int) (y.map .int) && PyData.eqvAll (xs.map ptI) (ys.map ptI)) = _
    rw [eqvT, eqvI]
    rw [Bool.eq_iff_iff]
    simp
theorem plainI : ∀ l : List Int, PyData.plainAll (l.map .int) = true ∧ PyData.depthAll (l.map .int) = 0
  | [] => ⟨rfl, rfl⟩
  | x :: l => by
    obtain ⟨a, b⟩ := plainI l
    refine ⟨?_, ?_⟩
    · simp only [List.map_cons, PyData.plainAll, a, Bool.and_true]; rfl
    · simp only [List.map_cons, PyData.depthAll, b, PyData.depth]; rfl
theorem plainT : ∀ l : List (List Int), PyData.plainAll (l.map ptI) = true ∧ PyData.depthAll (l.map ptI) ≤ 1
  | [] => ⟨rfl, by simp [PyData.depthAll]⟩
  | x :: l => by
    obtain ⟨a, b⟩ := plainT l
    obtain ⟨c, d⟩ := plainI x
    refine ⟨?_, ?_⟩
    · simp only [List.map_cons, PyData.plainAll, a, Bool.and_true]
      exact c
    · simp only [List.map_cons, PyData.depthAll]
      have : (ptI x).depth ≤ 1 := by simp only [ptI, PyData.depth]; omega
      omega
theorem toPsT : ∀ l : List (List Int), toPs (l.map fun x => D.tup (x.map .int)) = some (l.map ptI)
  | [] => rfl
  | x :: l => by
    show (match D.toP (.tup (x.map .int)), toPs (l.map fun x => D.tup (x.map .int)) with | some x, some xs => some (x :: xs) | _, _ => none) = _
    have : D.toP (.tup (x.map .int)) = some (ptI x) := by
      show (toPs (x.map .int)).map PyData.tuple = _
      rw [toPs_ints x]
      rfl
    rw [toPsT l, this]
    rfl
theorem pdI (a : List Int) : pdOf (.tup (a.map .int)) = some (ptI a) := by
  obtain ⟨c, d⟩ := plainI a
  unfold pdOf
  have e1 : D.toP (.tup (a.map .int)) = some (ptI a) := by
    show (toPs (a.map .int)).map PyData.tuple = _
    rw [toPs_ints a]
    rfl
  rw [e1]
  exact if_pos ⟨by simp only [ptI, PyData.plain]; exact c, by simp only [ptI, PyData.depth]; omega⟩
theorem pdLI (a : List Int) : pdOf (.lst (a.map .int)) = some (plI a) := by
  obtain ⟨c, d⟩ := plainI a
  unfold pdOf
  have e1 : D.toP (.lst (a.map .int)) = some (plI a) := by
    show (toPs (a.map .int)).map PyData.list = _
    rw [toPs_ints a]
    rfl
  rw [e1]
  exact if_pos ⟨by simp only [plI, PyData.plain]; exact c, by simp only [plI, PyData.depth]; omega⟩
theorem pdT (a : List (List Int)) : pdOf (.tup (a.map fun x => D.tup (x.map .int))) = some (.tuple (a.map ptI)) := by
  obtain ⟨c, d⟩ := plainT a
  unfold pdOf
  have e1 : D.toP (.tup (a.map fun x => D.tup (x.map .int))) = some (.tuple (a.map ptI)) := by
    show (toPs (a.map fun x => D.tup (x.map .int))).map PyData.tuple = _
    rw [toPsT a]
    rfl
  rw [e1]
  exact if_pos ⟨by simp only [PyData.plain]; exact c, by simp only [PyData.depth]; omega⟩
theorem pdLT (a : List (List Int)) : pdOf (.lst (a.map fun x => D.tup (x.map .int))) = some (.list (a.map ptI)) := by
  obtain ⟨c, d⟩ := plainT a
  unfold pdOf
  have e1 : D.toP (.lst (a.map fun x => D.tup (x.map .int))) = some (.list (a.map ptI)) := by
    show (toPs (a.map fun x => D.tup (x.map .int))).map PyData.list = _
    rw [toPsT a]
    rfl
  rw [e1]
  exact if_pos ⟨by simp only [PyData.plain]; exact c, by simp only [PyData.depth]; omega⟩
theorem wp_eqPd {x y : D} {p q : PyData} {neg : Bool} (e1 : pdOf x = some p) (e2 : pdOf y = some q) : wp (opEq neg x y h) Q E = Q (.bl (neg != PyData.eqv p q)) h := by
  unfold opEq
  rw [e1, e2]
  rfl
/-- tuples, lists of whole numbers -/
theorem wp_eqTI {a b : List Int} {neg : Bool} : wp (opEq neg (.tup (a.map .int)) (.tup (b.map .int)) h) Q E = Q (.bl (neg != decide (a = b))) h := by
  rw [wp_eqPd (pdI a) (pdI b)]
  show Q (.bl (neg != PyData.eqvAll (a.map .int) (b.map .int))) h = _
  rw [eqvI]
theorem wp_eqTI0 {a : List Int} {neg : Bool} : wp (opEq neg (.tup (a.map .int)) (.tup []) h) Q E = Q (.bl (neg != decide (a = []))) h := wp_eqTI (b := [])
theorem wp_eqLI {a b : List Int} {neg : Bool} : wp (opEq neg (.lst (a.map .int)) (.lst (b.map .int)) h) Q E = Q (.bl (neg != decide (a = b))) h := by
  rw [wp_eqPd (pdLI a) (pdLI b)]
  show Q (.bl (neg != PyData.eqvAll (a.map .int) (b.map .int))) h = _
  rw [eqvI]
theorem wp_eqLI0 {a : List Int} {neg : Bool} : wp (opEq neg (.lst (a.map .int)) (.lst []) h) Q E = Q (.bl (neg != decide (a = []))) h := wp_eqLI (b := [])
/-- rows of tuples of whole numbers -/
theorem wp_eqTT {a b : List (List Int)} {neg : Bool} : wp (opEq neg (.tup (a.map fun x => D.tup (x.map .int))) (.tup (b.map fun x => D.tup (x.map .int))) h) Q E = Q (.bl (neg != decide (a = b))) h := by
  rw [wp_eqPd (pdT a) (pdT b)]
  show Q (.bl (neg != PyData.eqvAll (a.map ptI) (b.map ptI))) h = _
  rw [eqvT]
theorem wp_eqTT0 {a : List (List Int)} {neg : Bool} : wp (opEq neg (.tup (a.map fun x => D.tup (x.map .int))) (.tup []) h) Q E = Q (.bl (neg != decide (a = []))) h := wp_eqTT (b := [])
theorem wp_eqLT {a b : List (List Int)} {neg : Bool} : wp (opEq neg (.lst (a.map fun x => D.tup (x.map .int))) (.lst (b.map fun x => D.tup (x.map .int))) h) Q E = Q (.bl (neg != decide (a = b))) h := by
  rw [wp_eqPd (pdLT a) (pdLT b)]
  show Q (.bl (neg != PyData.eqvAll (a.map ptI) (b.map ptI))) h = _
  rw [eqvT]
theorem wp_eqLT0 {a : List (List Int)} {neg : Bool} : wp (opEq neg (.lst (a.map fun x => D.tup (x.map .int))) (.lst []) h) Q E = Q (.bl (neg != decide (a = []))) h := wp_eqLT (b := [])
theorem any_eqvI {x : Int} : ∀ {ys : List Int}, ((ys.map PyData.int).any fun z => PyData.eqv z (.int x)) = decide (x ∈ ys)
  | [] => rfl
  | y :: ys => by
    rw [List.map_cons, List.any_cons, any_eqvI]
    show ((y == x) || decide (x ∈ ys)) = _
    rw [Bool.eq_iff_iff]
    simp only [Bool.or_eq_true, decide_eq_true_eq, List.mem_cons, beq_iff_eq]
    exact ⟨fun z => z.elim (fun e => .inl e.symm) .inr, fun z => z.elim (fun e => .inl e.symm) .inr⟩
theorem any_eqvT {x : List Int} : ∀ {ys : List (List Int)}, ((ys.map ptI).any fun z => PyData.eqv z (ptI x)) = decide (x ∈ ys)
  | [] => rfl
  | y :: ys => by
    rw [List.map_cons, List.any_cons, any_eqvT]
    show (PyData.eqvAll (y.map .int) (x.map .int) || decide (x ∈ ys)) = _
    rw [eqvI, Bool.eq_iff_iff]
    simp only [Bool.or_eq_true, decide_eq_true_eq, List.mem_cons]
    exact ⟨fun z => z.elim (fun e => .inl e.symm) .inr, fun z => z.elim (fun e => .inl e.symm) .inr⟩
theorem pd_int {i : Int} : pdOf (.int i) = some (.int i) := rfl
/-- i in a row of whole numbers -/
theorem wp_inI {i : Int} {a : List Int} {neg : Bool} : wp (opIn neg (.int i) (.tup (a.map .int)) h) Q E = Q (.bl (neg != decide (i ∈ a))) h := by
  show wp (match pdOf (.int i), pdOf (.lst (a.map .int)) with | some p, some (.list ps) => R.ok (D.bl (neg != ps.any fun z => PyData.eqv z p)) h | _, _ => .bad) Q E = _
  rw [pdLI, pd_int]
  show Q (.bl (neg != (a.map PyData.int).any fun z => PyData.eqv z (.int i))) h = _
  rw [any_eqvI]
theorem wp_inIL {i : Int} {a : List Int} {neg : Bool} : wp (opIn neg (.int i) (.lst (a.map .int)) h) Q E = Q (.bl (neg != decide (i ∈ a))) h := by
  show wp (match pdOf (.int i), pdOf (.lst (a.map .int)) with | some p, some (.list ps) => R.ok (D.bl (neg != ps.any fun z => PyData.eqv z p)) h | _, _ => .bad) Q E = _
  rw [pdLI, pd_int]
  show Q (.bl (neg != (a.map PyData.int).any fun z => PyData.eqv z (.int i))) h = _
  rw [any_eqvI]
/-- a tuple in a row of tuples -/
theorem wp_inT {x : List Int} {a : List (List Int)} {neg : Bool} : wp (opIn neg (.tup (x.map .int)) (.tup (a.map fun x => D.tup (x.map .int))) h) Q E = Q (.bl (neg != decide (x ∈ a))) h := by
  show wp (match pdOf (.tup (x.map .int)), pdOf (.lst (a.map fun x => D.tup (x.map .int))) with | some p, some (.list ps) => R.ok (D.bl (neg != ps.any fun z => PyData.eqv z p)) h | _, _ => .bad) Q E = _
  rw [pdLT, pdI]
  show Q (.bl (neg != (a.map ptI).any fun z => PyData.eqv z (ptI x))) h = _
  rw [any_eqvT]
/-- the order of tuples -/
theorem dataLt_tt (a b : List Int) : dataLt (ptI a) (ptI b) = decide (a < b) := by
  show dataLt (.tuple (a.map .int)) (.tuple (b.map .int)) = _
  rw [PySem.W.dataLt_tuple]
  exact PySem.W.dataLt_ints a b
theorem wp_ltT {a b : List Int} : wp (opLt (.tup (a.map .int)) (.tup (b.map .int)) h) Q E = Q (.bl (decide (a < b))) h := by
  show wp (match pdOf (.tup (a.map .int)), pdOf (.tup (b.map .int)) with | some p, some q => if (alike p q && notNon p) = true then R.ok (D.bl (dataLt p q)) h else .bad | _, _ => .bad) Q E = _
  rw [pdI, pdI]
  have e : (alike (ptI a) (ptI b) && notNon (ptI a)) = true := by simp [ptI, alike, PySem.W.alike_ints, notNon]
  show wp (if (alike (ptI a) (ptI b) && notNon (ptI a)) = true then R.ok (D.bl (dataLt (ptI a) (ptI b))) h else .bad) Q E = _
  rw [if_pos e, dataLt_tt, wp_okN]
/-! ### sorted -/
theorem toP_tupI (x : List Int) : D.toP (.tup (x.map .int)) = some (ptI x) := by
  show (toPs (x.map .int)).map PyData.tuple = _
  rw [toPs_ints x]
  rfl
theorem encT (x : List Int) : encD (.tup (x.map .int)) = ptI x := by
  unfold encD
  rw [toP_tupI]
  rfl
theorem srtD_ints (xs : List Int) : srtD (xs.map .int) = (srtI xs).map .int := by
  unfold srtD srtI
  symm
  refine List.map_mergeSort fun a _ b _ => ?_
  rw [PySem.W.dataLe_eq]
  show decide (a ≤ b) = !dataLt (.int b) (.int a)
  rw [PySem.W.dataLt_int, PySem.W.not_lt_int]
theorem srtD_rows (xs : List (List Int)) : srtD (xs.map fun x => D.tup (x.map .int)) = (srtR xs).map fun x => D.tup (x.map .int) := by
  unfold srtD srtR
  symm
  refine List.map_mergeSort fun a _ b _ => ?_
  have := congrFun (congrFun (dataLe_tups fun x : List Int => x) a) b
  rw [PySem.W.dataLe_eq] at this ⊢
  show decide (a ≤ b) = !dataLt (encD (.tup (b.map .int))) (encD (.tup (a.map .int)))
  rw [encT, encT, ← this]
  rfl
theorem srtOk_ints (xs : List Int) : SrtOk (xs.map .int) := by
  refine ⟨fun d hd => ?_, fun d hd d' hd' => ?_, .inl (.inr fun d hd => ?_)⟩
  · obtain ⟨i, _, rfl⟩ := List.mem_map.mp hd
    exact ⟨_, rfl, Nat.zero_le _⟩
  · rw [List.map_map] at hd hd'
    obtain ⟨i, _, rfl⟩ := List.mem_map.mp hd
    obtain ⟨j, _, rfl⟩ := List.mem_map.mp hd'
    rfl
  · rw [List.map_map] at hd
    obtain ⟨i, _, rfl⟩ := List.mem_map.mp hd
    exact ⟨(fun z => by cases z), (fun xs z => by cases z)⟩
theorem srtOk_rows (xs : List (List Int)) : SrtOk (xs.map fun x => D.tup (x.map .int)) := by
  refine ⟨fun d hd => ?_, fun d hd d' hd' => ?_, .inr fun d hd => ?_⟩
  · obtain ⟨x, _, rfl⟩ := List.mem_map.mp hd
    refine ⟨_, toP_tupI x, ?_⟩
    have := (plainI x).2
    show PyData.depthAll (x.map .int) + 1 ≤ 30
    omega
  · rw [List.map_map] at hd hd'
    obtain ⟨x, _, rfl⟩ := List.mem_map.mp hd
    obtain ⟨y, _, rfl⟩ := List.mem_map.mp hd'
    show alike (encD (.tup (x.map .int))) (encD (.tup (y.map .int))) = true
    rw [encT, encT]
    simp [ptI, alike, PySem.W.alike_ints]
  · rw [List.map_map] at hd
    obtain ⟨x, _, rfl⟩ := List.mem_map.mp hd
    exact ⟨x.map .int, encT x⟩
theorem wp_sorted_of {x : D} {b : Bool} {ds es : List D} (e1 : seqOf h x = some (b, ds)) (e2 : SrtOk ds) (e3 : srtD ds = es) : wp (bSorted [x] h) Q E = Q (.lst es) h := by
  show wp (match seqOf h x with | some (_, ds) => if SrtOk ds then R.ok (.lst (srtD ds)) h else .bad | none => .bad) Q E = _
  rw [e1]
  show wp (if SrtOk ds then R.ok (.lst (srtD ds)) h else .bad) Q E = _
  rw [if_pos e2, e3, wp_okN]
theorem wp_srtTI {xs : List Int} : wp (bSorted [.tup (xs.map .int)] h) Q E = Q (.lst ((srtI xs).map .int)) h := wp_sorted_of (b := true) rfl (srtOk_ints xs) (srtD_ints xs)
theorem wp_srtLI {xs : List Int} : wp (bSorted [.lst (xs.map .int)] h) Q E = Q (.lst ((srtI xs).map .int)) h := wp_sorted_of (b := false) rfl (srtOk_ints xs) (srtD_ints xs)
theorem wp_srtTR {xs : List (List Int)} : wp (bSorted [.tup (xs.map fun x => D.tup (x.map .int))] h) Q E = Q (.lst ((srtR xs).map fun x => D.tup (x.map .int))) h := wp_sorted_of (b := true) rfl (srtOk_rows xs) (srtD_rows xs)
theorem wp_srtLR {xs : List (List Int)} : wp (bSorted [.lst (xs.map fun x => D.tup (x.map .int))] h) Q E = Q (.lst ((srtR xs).map fun x => D.tup (x.map .int))) h := wp_sorted_of (b := false) rfl (srtOk_rows xs) (srtD_rows xs)
/-! ### sorted(set(x)) -/
theorem wp_srtSet {d : DE} : wp (cSrtSet d env h) Q E = wp (d env h) (fun x h1 => onO (seqOf h1 x) fun p => onO (srtSetD p.2) fun es => Q (.lst es) h1) E := by
  unfold cSrtSet
  rw [wp_bind]
  congr 1
  funext x h1
  cases e : seqOf h1 x with
  | none => rfl
  | some p =>
    obtain ⟨b, ds⟩ := p
    show wp (match srtSetD ds with | some es => R.ok (.lst es) h1 | none => .bad) Q E = onO (srtSetD ds) fun es => Q (.lst es) h1
    cases srtSetD ds <;> rfl
theorem seq_T {ds : List D} : seqOf h (.tup ds) = some (true, ds) := rfl
theorem seq_L {ds : List D} : seqOf h (.lst ds) = some (false, ds) := rfl
theorem wp_min2 {i j : Int} : wp (bMin2 [.int i, .int j] h) Q E = Q (.int (min i j)) h := by
  show Q (.int (if j < i then j else i)) h = _
  congr 2
  by_cases z : j < i
  · rw [if_pos z]; omega
  · rw [if_neg z]; omega
theorem wp_max2 {i j : Int} : wp (bMax2 [.int i, .int j] h) Q E = Q (.int (max i j)) h := by
  show Q (.int (if j > i then j else i)) h = _
  congr 2
  by_cases z : j > i
  · rw [if_pos z]; omega
  · rw [if_neg z]; omega
/-! ### loops, counted -/
theorem for_cnt {all xs : List D} {tg : DG} {body : DS} {J : Nat → En → List Cell → Prop} (h0 : J 0 env h) (step : ∀ k x env h, x ∈ xs → k < xs.length → J k env h → ∃ env1, tg x env h = some env1 ∧ ws (body env1 h) ⟨J (k + 1), P.rt, P.nx, J (k + 1), P.ex⟩)
    (fin : ∀ env h, J xs.length env h → P.nx env h) : ws (forL none all tg body xs env h) P := by
  refine for_rem (I := fun r env h => (∃ k, k + r.length = xs.length ∧ J k env h) ∧ ∀ x ∈ r, x ∈ xs) (fun x r env h ⟨⟨k, hk, hJ⟩, hm⟩ => ?_) (fun env h ⟨⟨k, hk, hJ⟩, _⟩ => fin env h (by
    have e : k = xs.length := by simpa using hk
    rw [← e]; exact hJ)) ⟨⟨0, by simp, h0⟩, fun _ z => z⟩
  rw [List.length_cons] at hk
  obtain ⟨env1, e1, e2⟩ := step k x env h (hm x List.mem_cons_self) (by omega) hJ
  have hr : ∀ y ∈ r, y ∈ xs := fun y hy => hm y (List.mem_cons_of_mem _ hy)
  refine ⟨env1, e1, ?_⟩
  cases e : body env1 h with
  | nx env' h' => rw [e] at e2; exact ⟨⟨k + 1, by omega, e2⟩, hr⟩
  | ct env' h' => rw [e] at e2; exact ⟨⟨k + 1, by omega, e2⟩, hr⟩
  | bk env' h' => rw [e] at e2; exact e2
  | rt d h' => rw [e] at e2; exact e2
  | exc d env' h' => rw [e] at e2; exact e2
  | bad => rw [e] at e2; exact e2.elim
end
end
end DL

namespace DL
noncomputable section
open PySem PySem.Spec PyProof.Rows L2
variable {Q E : D → List Cell → Prop} {P : SPost} {env : En} {h : List Cell}
theorem wp_sum2 {x : D} {b : Bool} {xs : List Int} (hx : seqOf h x = some (b, xs.map .int)) : wp (bSum2 [x] h) Q E = Q (.int xs.sum) h := by
  show wp (match seqOf h x with
    | some (_, ds) => (match intsOf ds with
      | some bs => R.ok (.int bs.sum) h
      | none => .bad)
    | _ => .bad) Q E = _
  rw [hx]
  show wp (match intsOf (xs.map .int) with
      | some bs => R.ok (.int bs.sum) h
      | none => .bad) Q E = _
  rw [intsOf_map]
  exact wp_okN
theorem wp_sum2L {xs : List Int} : wp (bSum2 [.lst (xs.map .int)] h) Q E = Q (.int xs.sum) h := wp_sum2 (b := false) rfl
theorem wp_sum2T {xs : List Int} : wp (bSum2 [.tup (xs.map .int)] h) Q E = Q (.int xs.sum) h := wp_sum2 (b := true) rfl
theorem wp_itZipM {ds : DEs} {Q : List D × GdT → List Cell → Prop} : wp (cItZipM ds env h) Q E = wp (ds env h) (fun xs h1 => onO (zipM xs) fun p => Q (p, none) h1) E := by
  unfold cItZipM
  rw [wp_bind]
  congr 1
  funext x h1
  cases zipM x <;> rfl
theorem zip_tl {a b : List D} : zipM [.tup a, .lst b] = some (pairUp a b) := rfl
end
end DL

/-! what the law and the program do to data; printed by a program of mine from the row -/
namespace G
open PySem PySem.Spec PyProof.Rows L2 DL
noncomputable section
def N__law_deck : List Str := ["_law_script", "_law_great", "_law_cell"]
theorem sc__law_deck : FnScope N__law_deck ["_law_script"] (defScope s__law_deck) := ⟨rfl, rfl, rfl, by decide +kernel, rfl, by decide +kernel, by decide +kernel⟩
def st__law_deck_0 : DS := (sSet 1 (cK (.int 0)))
def lb__law_deck_0 : DS := (sIf (toT (c2 opGe (cCall bAbs (cCons (cVar 2) cNil)) (c2 opPow (cK (.int 10)) (cK (.int 18))))) (sSet 1 (c2 opAdd (c2 opMul (cVar 1) (cK (.int 79))) (cCall bAbs (cCons (cVar 2) cNil)))) sNil)
def st__law_deck_1 : DS := (sFor (cIt (cSlice (cVar 0) cNoP (cP (cK (.int 58))))) (gN 2) lb__law_deck_0)
def ks__law_deck_0 : List (Key × DE) := [((.inr ("cells" : Str) : Key), (c2 opAdd (cCall bList (cCons (cSlice (cVar 0) cNoP (cP (cK (.int 58)))) cNil)) (cLst (cCons (c2 opAdd (cCall bLen (cCons (cVar 0) cNil)) (cK (.int 19))) cNil)))), ((.inr ("turn" : Str) : Key), (cK (.int 0))), ((.inr ("great" : Str) : Key), (cVar 1))]
def st__law_deck_2 : DS := (sRet (cDispC ks__law_deck_0))
def b__law_deck : DS := (sSeq st__law_deck_0 (sSeq st__law_deck_1 st__law_deck_2))
def F__law_deck : DF := fnC N__law_deck.length b__law_deck
theorem e__law_deck (a0 : D) : env0 N__law_deck.length [a0] = [some a0, none, none] := rfl
def N__law_errors : List Str := ["_law_one_here", "_law_other", "_law_found"]
theorem sc__law_errors : FnScope N__law_errors ["_law_one_here", "_law_other"] (defScope s__law_errors) := ⟨rfl, rfl, rfl, by decide +kernel, rfl, by decide +kernel, by decide +kernel⟩
def st__law_errors_0 : DS := (sSet 2 (cLst (cCons (cMkX 1008 [("draws" : Str)] (cCons (cVar 0) cNil)) (cCons (cMkX 1001 [("group" : Str)] (cCons (cVar 0) cNil)) (cCons (cMkX 1009 [("names" : Str)] (cCons (cVar 0) cNil)) (cCons (cMkX 1011 [("prime" : Str)] (cCons (cVar 0) cNil)) (cCons (cMkX 1003 [("number" : Str), ("word" : Str)] (cCons (cVar 0) (cCons (cVar 1) cNil))) (cCons (cMkX0 1002) (cCons (cMkX 1012 [("number" : Str)] (cCons (cVar 0) cNil)) cNil)))))))))
def st__law_errors_1 : DS := (sSet 2 (c2 opAdd (cVar 2) (cLst (cCons (cMkX0 1013) (cCons (cMkX0 1004) (cCons (cMkX0 1014) (cCons (cMkX 1007 [("person" : Str)] (cCons (cVar 0) cNil)) (cCons (cMkX 1017 [("one" : Str), ("other" : Str)] (cCons (cVar 0) (cCons (cVar 1) cNil))) cNil))))))))
def st__law_errors_2 : DS := (sRet (c2 opAdd (cVar 2) (cLst (cCons (cMkX0 1010) (cCons (cMkX 1015 [("limit" : Str)] (cCons (cVar 0) cNil)) (cCons (cMkX0 1016) (cCons (cMkX 1005 [("number" : Str)] (cCons (cVar 0) cNil)) (cCons (cMkX 1006 [("person" : Str)] (cCons (cVar 0) cNil)) cNil))))))))
def b__law_errors : DS := (sSeq st__law_errors_0 (sSeq st__law_errors_1 st__law_errors_2))
def F__law_errors : DF := fnD N__law_errors.length b__law_errors
theorem e__law_errors (a0 a1 : D) : env0 N__law_errors.length [a0, a1] = [some a0, some a1, none] := rfl
def N__law_take : List Str := ["_law_deck_here", "_law_many", "_law_digit", "_law_turn", "_law_cells", "_law_mixed"]
theorem sc__law_take : FnScope N__law_take ["_law_deck_here", "_law_many"] (defScope s__law_take) := ⟨rfl, rfl, rfl, by decide +kernel, rfl, by decide +kernel, by decide +kernel⟩
def st__law_take_0 : DS := (sSetK (cVar 0) (cK (.str ("turn" : Str))) (c2 opAdd (c2 opKey (cVar 0) (cK (.str ("turn" : Str)))) (cK (.int 1))))
def st__law_take_1 : DS := (sIf (toT (c2 opGt (c2 opKey (cVar 0) (cK (.str ("great" : Str)))) (cK (.int 0)))) (sSeq (sSet 2 (c2 opMod (c2 opKey (cVar 0) (cK (.str ("great" : Str)))) (cVar 1))) (sSeq (sSetK (cVar 0) (cK (.str ("great" : Str))) (c2 opFdiv (c2 opKey (cVar 0) (cK (.str ("great" : Str)))) (cVar 1))) (sRet (cVar 2)))) sNil)
def st__law_take_2 : DS := (sPar 3 4 (cCons (c2 opKey (cVar 0) (cK (.str ("turn" : Str)))) (cCons (c2 opKey (cVar 0) (cK (.str ("cells" : Str)))) cNil)))
def st__law_take_3 : DS := (sSet 5 (c2 opMod (c2 opPow (c2 opAdd (c2 opAdd (c2 opMod (c2 opIdx (cVar 4) (c2 opMod (cVar 3) (cCall bLen (cCons (cVar 4) cNil)))) (cK (.int 2147483423))) (c2 opMul (cK (.int 60029)) (cVar 3))) (cK (.int 37))) (cK (.int 3))) (cK (.int 2147483543))))
def st__law_take_4 : DS := (sRet (c2 opMod (c2 opFdiv (c2 opMod (c2 opAdd (c2 opMul (cVar 5) (cK (.int 64901))) (c2 opMul (c2 opMul (cK (.int 7919)) (cVar 3)) (cVar 3))) (cK (.int 2147483497))) (cK (.int 11))) (cVar 1)))
def b__law_take : DS := (sSeq st__law_take_0 (sSeq st__law_take_1 (sSeq st__law_take_2 (sSeq st__law_take_3 st__law_take_4))))
def F__law_take : DF := fnD N__law_take.length b__law_take
theorem e__law_take (a0 a1 : D) : env0 N__law_take.length [a0, a1] = [some a0, some a1, none, none, none, none] := rfl
def N__law_one : List Str := ["_law_deck_here", "_law_items"]
theorem sc__law_one : FnScope N__law_one ["_law_deck_here", "_law_items"] (defScope s__law_one) := ⟨rfl, rfl, rfl, by decide +kernel, rfl, by decide +kernel, by decide +kernel⟩
def st__law_one_0 : DS := (sRet (c2 opIdx (cVar 1) (cFn F__law_take 2 (cCons (cVar 0) (cCons (cCall bLen (cCons (cVar 1) cNil)) cNil)))))
def b__law_one : DS := st__law_one_0
def F__law_one : DF := fnD N__law_one.length b__law_one
theorem e__law_one (a0 a1 : D) : env0 N__law_one.length [a0, a1] = [some a0, some a1] := rfl
def N__law_odd : List Str := ["_law_deck_here", "_law_some"]
theorem sc__law_odd : FnScope N__law_odd ["_law_deck_here"] (defScope s__law_odd) := ⟨rfl, rfl, rfl, by decide +kernel, rfl, by decide +kernel, by decide +kernel⟩
def st__law_odd_0 : DS := (sSet 1 (cLst (cCons (cK .non) (cCons (cK (.bl true)) (cCons (cK (.bl false)) (cCons (c1 opNeg (cK (.int 1))) (cCons (cK (.int 0)) (cCons (cK (.int 1)) (cCons (cK (.int 2)) (cCons (cK (.int 6)) (cCons (cK (.int 7)) (cCons (c2 opPow (cK (.int 10)) (cK (.int 59))) (cCons (c1 opNeg (c2 opPow (cK (.int 10)) (cK (.int 40)))) (cCons (cK (.str ("" : Str))) (cCons (cK (.str ("0" : Str))) (cCons (cK (.str ("01" : Str))) (cCons (cTup cNil) cNil)))))))))))))))))
def ks__law_odd_0 : List (Key × DE) := [((.inr ("a" : Str) : Key), (cK (.int 1)))]
def st__law_odd_1 : DS := (sSet 1 (c2 opAdd (cVar 1) (cLst (cCons (cTup (cCons (cK (.int 0)) cNil)) (cCons (cTup (cCons (cK (.int 1)) (cCons (cK (.int 0)) cNil))) (cCons (cTup (cCons (cK (.int 0)) (cCons (cK (.int 0)) cNil))) (cCons (cTup (cCons (cK (.int 0)) (cCons (cK (.int 1)) (cCons (cK (.int 2)) cNil)))) (cCons (cTup (cCons (cTup (cCons (cK (.int 0)) cNil)) cNil)) (cCons (cLst cNil) (cCons (cLst (cCons (cK (.int 0)) cNil)) (cCons cDic0 (cCons (cDisp ks__law_odd_0) (cCons (cTup (cCons (cTup cNil) (cCons (cTup cNil) cNil))) cNil)))))))))))))
def st__law_odd_2 : DS := (sRet (cFn F__law_one 2 (cCons (cVar 0) (cCons (c2 opAdd (cVar 1) (cLst (cCons (cTup (cCons (cK .non) cNil)) (cCons (cTup (cCons (cK (.bl true)) cNil)) (cCons (cTup (cCons (cK (.int 0)) (cCons (cK (.bl true)) cNil))) (cCons (cTup (cCons (cLst cNil) cNil)) (cCons (cTup (cCons (c1 opNeg (cK (.int 1))) (cCons (cK (.int 0)) cNil))) (cCons (cK (.str ("group" : Str))) (cCons (cTup (cCons (cK (.int 0)) (cCons (cK (.int 6)) cNil))) (cCons (cTup (cCons (cK (.int 5)) cNil)) cNil)))))))))) cNil))))
def b__law_odd : DS := (sSeq st__law_odd_0 (sSeq st__law_odd_1 st__law_odd_2))
def F__law_odd : DF := fnD N__law_odd.length b__law_odd
theorem e__law_odd (a0 : D) : env0 N__law_odd.length [a0] = [some a0, none] := rfl
def N__law_sorts : List Str := ["_law_error", "_law_found"]
theorem sc__law_sorts : FnScope N__law_sorts ["_law_error"] (defScope s__law_sorts) := ⟨rfl, rfl, rfl, by decide +kernel, rfl, by decide +kernel, by decide +kernel⟩
def st__law_sorts_0 : DS := (sSet 1 (cLst (cCons (cXoIs [1008] (cVar 0)) (cCons (cXoIs [1001] (cVar 0)) (cCons (cXoIs [1009] (cVar 0)) cNil)))))
def st__law_sorts_1 : DS := (sSet 1 (c2 opAdd (cVar 1) (cLst (cCons (cXoIs [1011] (cVar 0)) (cCons (cXoIs [1003] (cVar 0)) (cCons (cXoIs [1002] (cVar 0)) cNil))))))
def st__law_sorts_2 : DS := (sSet 1 (c2 opAdd (cVar 1) (cLst (cCons (cXoIs [1012] (cVar 0)) (cCons (cXoIs [1013] (cVar 0)) (cCons (cXoIs [1004] (cVar 0)) cNil))))))
def st__law_sorts_3 : DS := (sSet 1 (c2 opAdd (cVar 1) (cLst (cCons (cXoIs [1014] (cVar 0)) (cCons (cXoIs [1007] (cVar 0)) (cCons (cXoIs [1017] (cVar 0)) cNil))))))
def st__law_sorts_4 : DS := (sSet 1 (c2 opAdd (cVar 1) (cLst (cCons (cXoIs [1010] (cVar 0)) (cCons (cXoIs [1015] (cVar 0)) (cCons (cXoIs [1016] (cVar 0)) cNil))))))
def st__law_sorts_5 : DS := (sSet 1 (c2 opAdd (cVar 1) (cLst (cCons (cXoIs [1005] (cVar 0)) (cCons (cXoIs [1006] (cVar 0)) (cCons (cXoIs [1000, 1008, 1001, 1009, 1010, 1011, 1003, 1002, 1012, 1013, 1004, 1014, 1007, 1015, 1016, 1017] (cVar 0)) cNil))))))
def st__law_sorts_6 : DS := (sSet 1 (c2 opAdd (cVar 1) (cLst (cCons (cXoIs [1000, 1008, 1001, 1009, 1010, 1011, 1003, 1002, 1012, 1013, 1004, 1014, 1007, 1015, 1016, 1017] (cVar 0)) (cCons (cXoIs [1005, 1006] (cVar 0)) (cCons (cXoIs [] (cVar 0)) cNil))))))
def st__law_sorts_7 : DS := (sRet (c2 opAdd (cVar 1) (cLst (cCons (cXoIs [] (cVar 0)) cNil))))
def b__law_sorts : DS := (sSeq st__law_sorts_0 (sSeq st__law_sorts_1 (sSeq st__law_sorts_2 (sSeq st__law_sorts_3 (sSeq st__law_sorts_4 (sSeq st__law_sorts_5 (sSeq st__law_sorts_6 st__law_sorts_7)))))))
def F__law_sorts : DF := fnD N__law_sorts.length b__law_sorts
theorem e__law_sorts (a0 : D) : env0 N__law_sorts.length [a0] = [some a0, none] := rfl
def N_law : List Str := ["_law_script", "_law_deck_here", "_law_limits", "_law_turn", "_law_one_here", "_law_other", "_law_some", "_law_kept", "_law_spot", "_law_error", "_law_is_port", "_law_due", "_law_at"]
theorem sc_law : FnScope N_law ["_law_script"] (defScope s_law) := ⟨rfl, rfl, rfl, by decide +kernel, rfl, by decide +kernel, by decide +kernel⟩
def st_law_0 : DS := (sSet 1 (cFn F__law_deck 1 (cCons (cVar 0) cNil)))
def st_law_1 : DS := (sSet 2 (cLst (cCons (cK (.int 20)) (cCons (cK (.int 5)) (cCons (cK (.int 8)) (cCons (cK (.int 6)) (cCons (cK (.int 4)) (cCons (cK (.int 20)) (cCons (cK (.int 46)) (cCons (cK (.tup [(.int 2), (.int 3), (.int 5), (.int 7), (.int 11), (.int 13)])) cNil))))))))))
def st_law_2 : DS := (sIf (toT (c2 (opEq true) (cCall bRepr (cCons (cVar 2) cNil)) (cCall bRepr (cCons (cLst (cCons (cK (.int 20)) (cCons (cK (.int 5)) (cCons (cK (.int 8)) (cCons (cK (.int 6)) (cCons (cK (.int 4)) (cCons (cK (.int 20)) (cCons (cK (.int 46)) (cCons (cTup (cCons (cK (.int 2)) (cCons (cK (.int 3)) (cCons (cK (.int 5)) (cCons (cK (.int 7)) (cCons (cK (.int 11)) (cCons (cK (.int 13)) cNil))))))) cNil))))))))) cNil)))) (sRet (cK (.bl false))) sNil)
def bs_law_0 : DS := (sPar 4 5 (cCons (cFn F__law_odd 1 (cCons (cVar 1) cNil)) (cCons (cFn F__law_one 2 (cCons (cVar 1) (cCons (cLst (cCons (cFn F__law_odd 1 (cCons (cVar 1) cNil)) (cCons (cK (.str ("order" : Str))) (cCons (c2 opPow (cK (.int 10)) (cK (.int 40))) (cCons (cTup (cCons (cTup (cCons (cK (.int 0)) (cCons (cK (.int 1)) cNil))) (cCons (cK .non) cNil))) cNil))))) cNil))) cNil)))
def bs_law_1 : DS := (sSet 6 (cFn F__law_errors 2 (cCons (cVar 4) (cCons (cVar 5) cNil))))
def bs_law_2 : DS := (sSet 7 (cLst (cCons (cXoF ("draws" : Str) (c2 opIdx (cVar 6) (cK (.int 0)))) (cCons (cXoF ("group" : Str) (c2 opIdx (cVar 6) (cK (.int 1)))) (cCons (cXoF ("names" : Str) (c2 opIdx (cVar 6) (cK (.int 2)))) (cCons (cXoF ("prime" : Str) (c2 opIdx (cVar 6) (cK (.int 3)))) (cCons (cXoF ("number" : Str) (c2 opIdx (cVar 6) (cK (.int 4)))) (cCons (cXoF ("number" : Str) (c2 opIdx (cVar 6) (cK (.int 6)))) cNil))))))))
def bs_law_3 : DS := (sSet 7 (c2 opAdd (cVar 7) (cLst (cCons (cXoF ("person" : Str) (c2 opIdx (cVar 6) (cK (.int 10)))) (cCons (cXoF ("one" : Str) (c2 opIdx (cVar 6) (cK (.int 11)))) (cCons (cXoF ("limit" : Str) (c2 opIdx (cVar 6) (cK (.int 13)))) (cCons (cXoF ("number" : Str) (c2 opIdx (cVar 6) (cK (.int 15)))) (cCons (cXoF ("person" : Str) (c2 opIdx (cVar 6) (cK (.int 16)))) cNil))))))))
def bs_law_4 : DS := (sIf (cTOr (toT (c2 (opEq true) (cCall bRepr (cCons (cVar 7) cNil)) (cCall bRepr (cCons (c2 opMul (cLst (cCons (cVar 4) cNil)) (cK (.int 11))) cNil)))) (toT (c2 (opEq true) (cCall bRepr (cCons (cLst (cCons (cXoF ("word" : Str) (c2 opIdx (cVar 6) (cK (.int 4)))) (cCons (cXoF ("other" : Str) (c2 opIdx (cVar 6) (cK (.int 11)))) cNil))) cNil)) (cCall bRepr (cCons (c2 opMul (cLst (cCons (cVar 5) cNil)) (cK (.int 2))) cNil))))) (sRet (cK (.bl false))) sNil)
def bs_law_5 : DS := (sSet 10 (c2 opLt (cVar 8) (cK (.int 15))))
def cs_law_0 : Scope := { kind := .function, names := [((".0" : Str), .local), (("_law_at" : Str), .local), (("_law_spot" : Str), .free)], isGenerator := false, isCoroutine := false, more := [] }
theorem bk_law_0 : BlkOk N_law (defScope s_law) cs_law_0 [(("_law_at" : Str), 12)] := ⟨rfl, by decide +kernel, by decide +kernel, by decide +kernel, by decide +kernel⟩
def bs_law_6 : DS := (sSet 11 (c2 opAdd (cComp (cItRg (cCons (cK (.int 17)) cNil)) [12] (gN 12) cYes (c2 (opEq false) (cVar 12) (cVar 8))) (cLst (cCons (cVar 10) (cCons (cVar 10) (cCons (cNot (cVar 10)) (cCons (cK (.bl false)) (cCons (cK (.bl false)) cNil))))))))
def bs_law_7 : DS := (sIf (toT (c2 (opEq true) (cFn F__law_sorts 1 (cCons (cVar 9) cNil)) (cVar 11))) (sRet (cK (.bl false))) sNil)
def lb_law_0 : DS := (sSeq bs_law_5 (sSeq bs_law_6 bs_law_7))
def bs_law_8 : DS := (sFor (cItEn (cCons (cVar 6) cNil)) (gT 2 (gsCons (gN 8) (gsCons (gN 9) gsNil))) lb_law_0)
def lb_law_1 : DS := (sSeq bs_law_0 (sSeq bs_law_1 (sSeq bs_law_2 (sSeq bs_law_3 (sSeq bs_law_4 bs_law_8)))))
def st_law_3 : DS := (sFor (cItRg (cCons (cK (.int 5)) cNil)) (gN 3) lb_law_1)
def st_law_4 : DS := (sRet (cK (.bl true)))
def b_law : DS := (sSeq st_law_0 (sSeq st_law_1 (sSeq st_law_2 (sSeq st_law_3 st_law_4))))
def F_law : DF := fnD N_law.length b_law
theorem e_law (a0 : D) : env0 N_law.length [a0] = [some a0, none, none, none, none, none, none, none, none, none, none, none, none] := rfl
end
/-- what the top has written -/
structure Tp (P : Program) (w : World) (K : PySem.W.Frag) (CM : CMap) (mg : Str → Option Value) (base : Heap) : Prop where
  f__law_deck : DefG K mg "_law_deck" s__law_deck
  f__law_errors : DefG K mg "_law_errors" s__law_errors
  f__law_take : DefG K mg "_law_take" s__law_take
  f__law_one : DefG K mg "_law_one" s__law_one
  f__law_odd : DefG K mg "_law_odd" s__law_odd
  f__law_sorts : DefG K mg "_law_sorts" s__law_sorts
  f_law : DefG K mg "law" s_law
  b_repr : mg "repr" = none
  b_range : mg "range" = none
  b_enumerate : mg "enumerate" = none
  b_abs : mg "abs" = none
  b_list : mg "list" = none
  b_len : mg "len" = none
  b_isinstance : mg "isinstance" = none
  b_KeyError : mg "KeyError" = none
  b_LookupError : mg "LookupError" = none
  b_ValueError : mg "ValueError" = none
  b_IndexError : mg "IndexError" = none
  c_PRIMES : GlobD K CM mg "PRIMES" (.tup [(.int 2), (.int 3), (.int 5), (.int 7), (.int 11), (.int 13)])
  c_MAX_WIDTH : GlobD K CM mg "MAX_WIDTH" (.int 46)
  c_MAX_VECTORS : GlobD K CM mg "MAX_VECTORS" (.int 20)
  c_MAX_TARGETS : GlobD K CM mg "MAX_TARGETS" (.int 4)
  c_MAX_PEOPLE : GlobD K CM mg "MAX_PEOPLE" (.int 6)
  c_MAX_PARTS : GlobD K CM mg "MAX_PARTS" (.int 8)
  c_MAX_LAID : GlobD K CM mg "MAX_LAID" (.int 5)
  c_MAX_EDITS : GlobD K CM mg "MAX_EDITS" (.int 20)
  ea : ErrAll K CM [("number" : Str), ("prime" : Str), ("names" : Str), ("group" : Str), ("draws" : Str), ("person" : Str), ("limit" : Str), ("one" : Str), ("other" : Str), ("word" : Str)]
  j_BadText : XcJ K CM mg "BadText" 1012 "BadText.__init__" si_BadText [("number" : Str)]
  j_BadRule : XcJ K CM mg "BadRule" 1003 "BadRule.__init__" si_BadRule [("number" : Str), ("word" : Str)]
  j_BadPrime : XcJ K CM mg "BadPrime" 1011 "BadPrime.__init__" si_BadPrime [("prime" : Str)]
  j_BadNames : XcJ K CM mg "BadNames" 1009 "BadNames.__init__" si_BadNames [("names" : Str)]
  j_BadGroup : XcJ K CM mg "BadGroup" 1001 "BadGroup.__init__" si_BadGroup [("group" : Str)]
  j_BadDraws : XcJ K CM mg "BadDraws" 1008 "BadDraws.__init__" si_BadDraws [("draws" : Str)]
  j_UnlikePeople : XcJ K CM mg "UnlikePeople" 1017 "UnlikePeople.__init__" si_UnlikePeople [("one" : Str), ("other" : Str)]
  j_OpensAlone : XcJ K CM mg "OpensAlone" 1007 "OpensAlone.__init__" si_OpensAlone [("person" : Str)]
  j_NoPerson : XcJ K CM mg "NoPerson" 1006 "NoPerson.__init__" si_NoPerson [("person" : Str)]
  j_NoGroup : XcJ K CM mg "NoGroup" 1005 "NoGroup.__init__" si_NoGroup [("number" : Str)]
  j_TooMany : XcJ K CM mg "TooMany" 1015 "TooMany.__init__" si_TooMany [("limit" : Str)]
  x_BadShares : Xc0 K CM mg "BadShares" 1002
  x_NothingToUndo : Xc0 K CM mg "NothingToUndo" 1014
  x_NoneOpens : Xc0 K CM mg "NoneOpens" 1004
  x_Full : Xc0 K CM mg "Full" 1013
  x_TooWide : Xc0 K CM mg "TooWide" 1016
  x_BadParts : Xc0 K CM mg "BadParts" 1010
  i_BadNames : HiD K CM (.ref (He.ga K "BadNames")) [1009]
  g_BadNames : mg "BadNames" = some (.ref (He.ga K "BadNames"))
  i_BadGroup : HiD K CM (.ref (He.ga K "BadGroup")) [1001]
  g_BadGroup : mg "BadGroup" = some (.ref (He.ga K "BadGroup"))
  i_BadDraws : HiD K CM (.ref (He.ga K "BadDraws")) [1008]
  g_BadDraws : mg "BadDraws" = some (.ref (He.ga K "BadDraws"))
  i_BadShares : HiD K CM (.ref (He.ga K "BadShares")) [1002]
  g_BadShares : mg "BadShares" = some (.ref (He.ga K "BadShares"))
  i_BadRule : HiD K CM (.ref (He.ga K "BadRule")) [1003]
  g_BadRule : mg "BadRule" = some (.ref (He.ga K "BadRule"))
  i_BadPrime : HiD K CM (.ref (He.ga K "BadPrime")) [1011]
  g_BadPrime : mg "BadPrime" = some (.ref (He.ga K "BadPrime"))
  i_NoneOpens : HiD K CM (.ref (He.ga K "NoneOpens")) [1004]
  g_NoneOpens : mg "NoneOpens" = some (.ref (He.ga K "NoneOpens"))
  i_Full : HiD K CM (.ref (He.ga K "Full")) [1013]
  g_Full : mg "Full" = some (.ref (He.ga K "Full"))
  i_BadText : HiD K CM (.ref (He.ga K "BadText")) [1012]
  g_BadText : mg "BadText" = some (.ref (He.ga K "BadText"))
  i_UnlikePeople : HiD K CM (.ref (He.ga K "UnlikePeople")) [1017]
  g_UnlikePeople : mg "UnlikePeople" = some (.ref (He.ga K "UnlikePeople"))
  i_OpensAlone : HiD K CM (.ref (He.ga K "OpensAlone")) [1007]
  g_OpensAlone : mg "OpensAlone" = some (.ref (He.ga K "OpensAlone"))
  i_NothingToUndo : HiD K CM (.ref (He.ga K "NothingToUndo")) [1014]
  g_NothingToUndo : mg "NothingToUndo" = some (.ref (He.ga K "NothingToUndo"))
  i_TooWide : HiD K CM (.ref (He.ga K "TooWide")) [1016]
  g_TooWide : mg "TooWide" = some (.ref (He.ga K "TooWide"))
  i_TooMany : HiD K CM (.ref (He.ga K "TooMany")) [1015]
  g_TooMany : mg "TooMany" = some (.ref (He.ga K "TooMany"))
  i_BadParts : HiD K CM (.ref (He.ga K "BadParts")) [1010]
  g_BadParts : mg "BadParts" = some (.ref (He.ga K "BadParts"))
  i_PortError : HiD K CM (.ref (He.ga K "PortError")) [1000, 1008, 1001, 1009, 1010, 1011, 1003, 1002, 1012, 1013, 1004, 1014, 1007, 1015, 1016, 1017]
  g_PortError : mg "PortError" = some (.ref (He.ga K "PortError"))
  i_NoPerson : HiD K CM (.ref (He.ga K "NoPerson")) [1006]
  g_NoPerson : mg "NoPerson" = some (.ref (He.ga K "NoPerson"))
  i_NoGroup : HiD K CM (.ref (He.ga K "NoGroup")) [1005]
  g_NoGroup : mg "NoGroup" = some (.ref (He.ga K "NoGroup"))
  i_KeyError : HiD K CM (.type "KeyError") []
  i_LookupError : HiD K CM (.type "LookupError") [1005, 1006]
  i_ValueError : HiD K CM (.type "ValueError") [1000, 1008, 1001, 1009, 1010, 1011, 1003, 1002, 1012, 1013, 1004, 1014, 1007, 1015, 1016, 1017]
  i_IndexError : HiD K CM (.type "IndexError") []
  sys : SysK K
  pw : CM.pw = pwO P w
  own : OwnAll K CM
section
variable {P : Program} {w : World} {K : PySem.W.Frag} {CM : CMap} {mg : Str → Option Value} {base : Heap}
theorem sci_BadText : FnScope ["self", "number"] ["self", "number"] (defScope si_BadText) := ⟨rfl, rfl, rfl, by decide +kernel, rfl, by decide +kernel, by decide +kernel⟩
theorem okx_BadText (T : Tp P w K CM mg base) : XcI P w K CM mg base "BadText" 1012 [("number" : Str)] := xci1 T.j_BadText sci_BadText rfl (fun _ _ _ _ _ _ us hl => match us, hl with | [_, _], _ => rfl) fun fI cdv A outer s H E => (pss_one (ps_xst (pv 0) (pv 1)))
theorem sci_BadRule : FnScope ["self", "number", "word"] ["self", "number", "word"] (defScope si_BadRule) := ⟨rfl, rfl, rfl, by decide +kernel, rfl, by decide +kernel, by decide +kernel⟩
theorem okx_BadRule (T : Tp P w K CM mg base) : XcI P w K CM mg base "BadRule" 1003 [("number" : Str), ("word" : Str)] := xci2 T.j_BadRule sci_BadRule rfl (fun _ _ _ _ _ _ us hl => match us, hl with | [_, _, _], _ => rfl) fun fI cdv A outer s H E => (pss_cons (ps_xst (pv 0) (pv 1)) (pss_one (ps_xst (pv 0) (pv 2))))
theorem sci_BadPrime : FnScope ["self", "prime"] ["self", "prime"] (defScope si_BadPrime) := ⟨rfl, rfl, rfl, by decide +kernel, rfl, by decide +kernel, by decide +kernel⟩
theorem okx_BadPrime (T : Tp P w K CM mg base) : XcI P w K CM mg base "BadPrime" 1011 [("prime" : Str)] := xci1 T.j_BadPrime sci_BadPrime rfl (fun _ _ _ _ _ _ us hl => match us, hl with | [_, _], _ => rfl) fun fI cdv A outer s H E => (pss_one (ps_xst (pv 0) (pv 1)))
theorem sci_BadNames : FnScope ["self", "names"] ["self", "names"] (defScope si_BadNames) := ⟨rfl, rfl, rfl, by decide +kernel, rfl, by decide +kernel, by decide +kernel⟩
theorem okx_BadNames (T : Tp P w K CM mg base) : XcI P w K CM mg base "BadNames" 1009 [("names" : Str)] := xci1 T.j_BadNames sci_BadNames rfl (fun _ _ _ _ _ _ us hl => match us, hl with | [_, _], _ => rfl) fun fI cdv A outer s H E => (pss_one (ps_xst (pv 0) (pv 1)))
theorem sci_BadGroup : FnScope ["self", "group"] ["self", "group"] (defScope si_BadGroup) := ⟨rfl, rfl, rfl, by decide +kernel, rfl, by decide +kernel, by decide +kernel⟩
theorem okx_BadGroup (T : Tp P w K CM mg base) : XcI P w K CM mg base "BadGroup" 1001 [("group" : Str)] := xci1 T.j_BadGroup sci_BadGroup rfl (fun _ _ _ _ _ _ us hl => match us, hl with | [_, _], _ => rfl) fun fI cdv A outer s H E => (pss_one (ps_xst (pv 0) (pv 1)))
theorem sci_BadDraws : FnScope ["self", "draws"] ["self", "draws"] (defScope si_BadDraws) := ⟨rfl, rfl, rfl, by decide +kernel, rfl, by decide +kernel, by decide +kernel⟩
theorem okx_BadDraws (T : Tp P w K CM mg base) : XcI P w K CM mg base "BadDraws" 1008 [("draws" : Str)] := xci1 T.j_BadDraws sci_BadDraws rfl (fun _ _ _ _ _ _ us hl => match us, hl with | [_, _], _ => rfl) fun fI cdv A outer s H E => (pss_one (ps_xst (pv 0) (pv 1)))
theorem sci_UnlikePeople : FnScope ["self", "one", "other"] ["self", "one", "other"] (defScope si_UnlikePeople) := ⟨rfl, rfl, rfl, by decide +kernel, rfl, by decide +kernel, by decide +kernel⟩
theorem okx_UnlikePeople (T : Tp P w K CM mg base) : XcI P w K CM mg base "UnlikePeople" 1017 [("one" : Str), ("other" : Str)] := xci2 T.j_UnlikePeople sci_UnlikePeople rfl (fun _ _ _ _ _ _ us hl => match us, hl with | [_, _, _], _ => rfl) fun fI cdv A outer s H E => (pss_cons (ps_xst (pv 0) (pv 1)) (pss_one (ps_xst (pv 0) (pv 2))))
theorem sci_OpensAlone : FnScope ["self", "person"] ["self", "person"] (defScope si_OpensAlone) := ⟨rfl, rfl, rfl, by decide +kernel, rfl, by decide +kernel, by decide +kernel⟩
theorem okx_OpensAlone (T : Tp P w K CM mg base) : XcI P w K CM mg base "OpensAlone" 1007 [("person" : Str)] := xci1 T.j_OpensAlone sci_OpensAlone rfl (fun _ _ _ _ _ _ us hl => match us, hl with | [_, _], _ => rfl) fun fI cdv A outer s H E => (pss_one (ps_xst (pv 0) (pv 1)))
theorem sci_NoPerson : FnScope ["self", "person"] ["self", "person"] (defScope si_NoPerson) := ⟨rfl, rfl, rfl, by decide +kernel, rfl, by decide +kernel, by decide +kernel⟩
theorem okx_NoPerson (T : Tp P w K CM mg base) : XcI P w K CM mg base "NoPerson" 1006 [("person" : Str)] := xci1 T.j_NoPerson sci_NoPerson rfl (fun _ _ _ _ _ _ us hl => match us, hl with | [_, _], _ => rfl) fun fI cdv A outer s H E => (pss_one (ps_xst (pv 0) (pv 1)))
theorem sci_NoGroup : FnScope ["self", "number"] ["self", "number"] (defScope si_NoGroup) := ⟨rfl, rfl, rfl, by decide +kernel, rfl, by decide +kernel, by decide +kernel⟩
theorem okx_NoGroup (T : Tp P w K CM mg base) : XcI P w K CM mg base "NoGroup" 1005 [("number" : Str)] := xci1 T.j_NoGroup sci_NoGroup rfl (fun _ _ _ _ _ _ us hl => match us, hl with | [_, _], _ => rfl) fun fI cdv A outer s H E => (pss_one (ps_xst (pv 0) (pv 1)))
theorem sci_TooMany : FnScope ["self", "limit"] ["self", "limit"] (defScope si_TooMany) := ⟨rfl, rfl, rfl, by decide +kernel, rfl, by decide +kernel, by decide +kernel⟩
theorem okx_TooMany (T : Tp P w K CM mg base) : XcI P w K CM mg base "TooMany" 1015 [("limit" : Str)] := xci1 T.j_TooMany sci_TooMany rfl (fun _ _ _ _ _ _ us hl => match us, hl with | [_, _], _ => rfl) fun fI cdv A outer s H E => (pss_one (ps_xst (pv 0) (pv 1)))
theorem ok__law_deck (T : Tp P w K CM mg base) : CallG P w K mg base CM 1 "_law_deck" 1 F__law_deck := by
  obtain ⟨fa, fd, F, hm⟩ := T.f__law_deck.ex
  refine def_ofC (ps := ["_law_script"]) (b := b__law_deck) F hm sc__law_deck (fun _ _ _ _ _ _ us hl => match us, hl with | [_], _ => rfl) fun cdv A outer s H E hgd hr tk => ?_
  have hu := hr.units
  exact (ds_cons (ds_set (i := 1) sc__law_deck.nd rfl (Or.inl rfl) d_int) (ds_cons (ds_for (passes_of rfl) rfl (d_iter (d_slice (d_var 0) d_noP (d_P d_int))) (tg_name (i := 2) sc__law_deck.nd rfl (Or.inl rfl)) (ds_one (ds_if (d_tcmp (op_geS hu) br_ord (d_callB call_abs br_abs rfl T.b_abs (by decide +kernel) (d_cons (d_var 2) d_nil)) (d_pow d_int d_int)) (ds_one (ds_set (i := 1) sc__law_deck.nd rfl (Or.inl rfl) (d_add (d_mul (d_var 1) d_int) (d_callB call_abs br_abs rfl T.b_abs (by decide +kernel) (d_cons (d_var 2) d_nil))))) ds_nil))) (ds_one (ds_ret (d_dispC (ks := ks__law_deck_0) (pps_cons d_str (d_add (d_callTy call_list_of br_list rfl T.b_list (by decide +kernel) (d_cons (d_slice (d_var 0) d_noP (d_P d_int)) d_nil)) (d_lst (d_cons (d_add (d_callB cr_len br_len rfl T.b_len (by decide +kernel) (d_cons (d_var 0) d_nil)) d_int) d_nil))) (pps_cons d_str d_int (pps_cons d_str (d_var 1) pps_nil))) rfl rfl (fun h => nomatch h) (by decide) (by decide +kernel) (by decide))))))
theorem ok__law_errors (T : Tp P w K CM mg base) : CallG P w K mg base CM 3 "_law_errors" 2 F__law_errors := by
  obtain ⟨fa, fd, F, hm⟩ := T.f__law_errors.ex
  refine def_of (ps := ["_law_one_here", "_law_other"]) (b := b__law_errors) F hm sc__law_errors (fun _ _ _ _ _ _ us hl => match us, hl with | [_, _], _ => rfl) fun cdv A outer s H E hgd hr tk => ?_
  have hu := hr.units
  exact (ds_cons (ds_set (i := 2) sc__law_errors.nd rfl (Or.inl rfl) (d_lst (d_cons (d_mkX (okx_BadDraws T) (hr.mono (by decide)) (d_cons (d_var 0) d_nil)) (d_cons (d_mkX (okx_BadGroup T) (hr.mono (by decide)) (d_cons (d_var 0) d_nil)) (d_cons (d_mkX (okx_BadNames T) (hr.mono (by decide)) (d_cons (d_var 0) d_nil)) (d_cons (d_mkX (okx_BadPrime T) (hr.mono (by decide)) (d_cons (d_var 0) d_nil)) (d_cons (d_mkX (okx_BadRule T) (hr.mono (by decide)) (d_cons (d_var 0) (d_cons (d_var 1) d_nil))) (d_cons (d_mkX0 T.x_BadShares) (d_cons (d_mkX (okx_BadText T) (hr.mono (by decide)) (d_cons (d_var 0) d_nil)) d_nil))))))))) (ds_cons (ds_set (i := 2) sc__law_errors.nd rfl (Or.inl rfl) (d_add (d_var 2) (d_lst (d_cons (d_mkX0 T.x_Full) (d_cons (d_mkX0 T.x_NoneOpens) (d_cons (d_mkX0 T.x_NothingToUndo) (d_cons (d_mkX (okx_OpensAlone T) (hr.mono (by decide)) (d_cons (d_var 0) d_nil)) (d_cons (d_mkX (okx_UnlikePeople T) (hr.mono (by decide)) (d_cons (d_var 0) (d_cons (d_var 1) d_nil))) d_nil)))))))) (ds_one (ds_ret (d_add (d_var 2) (d_lst (d_cons (d_mkX0 T.x_BadParts) (d_cons (d_mkX (okx_TooMany T) (hr.mono (by decide)) (d_cons (d_var 0) d_nil)) (d_cons (d_mkX0 T.x_TooWide) (d_cons (d_mkX (okx_NoGroup T) (hr.mono (by decide)) (d_cons (d_var 0) d_nil)) (d_cons (d_mkX (okx_NoPerson T) (hr.mono (by decide)) (d_cons (d_var 0) d_nil)) d_nil)))))))))))
theorem ok__law_take (T : Tp P w K CM mg base) : CallG P w K mg base CM 1 "_law_take" 2 F__law_take := by
  obtain ⟨fa, fd, F, hm⟩ := T.f__law_take.ex
  refine def_of (ps := ["_law_deck_here", "_law_many"]) (b := b__law_take) F hm sc__law_take (fun _ _ _ _ _ _ us hl => match us, hl with | [_, _], _ => rfl) fun cdv A outer s H E hgd hr tk => ?_
  have hu := hr.units
  exact (ds_cons (ds_setK hu (d_var 0) d_str (d_add (d_key hu (d_var 0) d_str) d_int)) (ds_cons (ds_if (d_tcmp (op_gtS hu) br_ord (d_key hu (d_var 0) d_str) d_int) (ds_cons (ds_set (i := 2) sc__law_take.nd rfl (Or.inl rfl) (d_mod (d_key hu (d_var 0) d_str) (d_var 1))) (ds_cons (ds_setK hu (d_var 0) d_str (d_fdiv (d_key hu (d_var 0) d_str) (d_var 1))) (ds_one (ds_ret (d_var 2))))) ds_nil) (ds_cons (ds_par (i := 3) (j := 4) rfl sc__law_take.nd rfl rfl (by decide) rfl rfl (d_cons (d_key hu (d_var 0) d_str) (d_cons (d_key hu (d_var 0) d_str) d_nil)) rfl) (ds_cons (ds_set (i := 5) sc__law_take.nd rfl (Or.inl rfl) (d_mod (d_pow (d_add (d_add (d_mod (d_idx (d_var 4) (d_mod (d_var 3) (d_callB cr_len br_len rfl T.b_len (by decide +kernel) (d_cons (d_var 4) d_nil)))) d_int) (d_mul d_int (d_var 3))) d_int) d_int) d_int)) (ds_one (ds_ret (d_mod (d_fdiv (d_mod (d_add (d_mul (d_var 5) d_int) (d_mul (d_mul d_int (d_var 3)) (d_var 3))) d_int) d_int) (d_var 1))))))))
theorem ok__law_one (T : Tp P w K CM mg base) : CallG P w K mg base CM 2 "_law_one" 2 F__law_one := by
  obtain ⟨fa, fd, F, hm⟩ := T.f__law_one.ex
  refine def_of (ps := ["_law_deck_here", "_law_items"]) (b := b__law_one) F hm sc__law_one (fun _ _ _ _ _ _ us hl => match us, hl with | [_, _], _ => rfl) fun cdv A outer s H E hgd hr tk => ?_
  have hu := hr.units
  exact (ds_one (ds_ret (d_idx (d_var 1) (d_call (ok__law_take T) (hr.mono (by decide)) hgd tk (d_cons (d_var 0) (d_cons (d_callB cr_len br_len rfl T.b_len (by decide +kernel) (d_cons (d_var 1) d_nil)) d_nil))))))
theorem ok__law_odd (T : Tp P w K CM mg base) : CallG P w K mg base CM 3 "_law_odd" 1 F__law_odd := by
  obtain ⟨fa, fd, F, hm⟩ := T.f__law_odd.ex
  refine def_of (ps := ["_law_deck_here"]) (b := b__law_odd) F hm sc__law_odd (fun _ _ _ _ _ _ us hl => match us, hl with | [_], _ => rfl) fun cdv A outer s H E hgd hr tk => ?_
  have hu := hr.units
  exact (ds_cons (ds_set (i := 1) sc__law_odd.nd rfl (Or.inl rfl) (d_lst (d_cons d_non (d_cons d_bl (d_cons d_bl (d_cons (d_neg d_int) (d_cons d_int (d_cons d_int (d_cons d_int (d_cons d_int (d_cons d_int (d_cons (d_pow d_int d_int) (d_cons (d_neg (d_pow d_int d_int)) (d_cons d_str (d_cons d_str (d_cons d_str (d_cons (d_tup d_nil) d_nil))))))))))))))))) (ds_cons (ds_set (i := 1) sc__law_odd.nd rfl (Or.inl rfl) (d_add (d_var 1) (d_lst (d_cons (d_tup (d_cons d_int d_nil)) (d_cons (d_tup (d_cons d_int (d_cons d_int d_nil))) (d_cons (d_tup (d_cons d_int (d_cons d_int d_nil))) (d_cons (d_tup (d_cons d_int (d_cons d_int (d_cons d_int d_nil)))) (d_cons (d_tup (d_cons (d_tup (d_cons d_int d_nil)) d_nil)) (d_cons (d_lst d_nil) (d_cons (d_lst (d_cons d_int d_nil)) (d_cons d_dic0 (d_cons (d_disp (ks := ks__law_odd_0) (pps_cons d_str d_int pps_nil) rfl rfl (fun h => nomatch h) (by decide) (by decide +kernel) (by decide)) (d_cons (d_tup (d_cons (d_tup d_nil) (d_cons (d_tup d_nil) d_nil))) d_nil))))))))))))) (ds_one (ds_ret (d_call (ok__law_one T) (hr.mono (by decide)) hgd tk (d_cons (d_var 0) (d_cons (d_add (d_var 1) (d_lst (d_cons (d_tup (d_cons d_non d_nil)) (d_cons (d_tup (d_cons d_bl d_nil)) (d_cons (d_tup (d_cons d_int (d_cons d_bl d_nil))) (d_cons (d_tup (d_cons (d_lst d_nil) d_nil)) (d_cons (d_tup (d_cons (d_neg d_int) (d_cons d_int d_nil))) (d_cons d_str (d_cons (d_tup (d_cons d_int (d_cons d_int d_nil))) (d_cons (d_tup (d_cons d_int d_nil)) d_nil)))))))))) d_nil)))))))
theorem ok__law_sorts (T : Tp P w K CM mg base) : CallG P w K mg base CM 1 "_law_sorts" 1 F__law_sorts := by
  obtain ⟨fa, fd, F, hm⟩ := T.f__law_sorts.ex
  refine def_of (ps := ["_law_error"]) (b := b__law_sorts) F hm sc__law_sorts (fun _ _ _ _ _ _ us hl => match us, hl with | [_], _ => rfl) fun cdv A outer s H E hgd hr tk => ?_
  have hu := hr.units
  exact (ds_cons (ds_set (i := 1) sc__law_sorts.nd rfl (Or.inl rfl) (d_lst (d_cons (d_xoIs (cV := .ref (He.ga K "BadDraws")) (cv := (.ref (He.ga K "BadDraws"))) [1008] T.ea (by exact (T.i_BadDraws).ex) (by exact fun _ h => h) (by exact (pe_glob rfl T.g_BadDraws rfl)) (d_var 0) (by exact rfl) T.b_isinstance) (d_cons (d_xoIs (cV := .ref (He.ga K "BadGroup")) (cv := (.ref (He.ga K "BadGroup"))) [1001] T.ea (by exact (T.i_BadGroup).ex) (by exact fun _ h => h) (by exact (pe_glob rfl T.g_BadGroup rfl)) (d_var 0) (by exact rfl) T.b_isinstance) (d_cons (d_xoIs (cV := .ref (He.ga K "BadNames")) (cv := (.ref (He.ga K "BadNames"))) [1009] T.ea (by exact (T.i_BadNames).ex) (by exact fun _ h => h) (by exact (pe_glob rfl T.g_BadNames rfl)) (d_var 0) (by exact rfl) T.b_isinstance) d_nil))))) (ds_cons (ds_set (i := 1) sc__law_sorts.nd rfl (Or.inl rfl) (d_add (d_var 1) (d_lst (d_cons (d_xoIs (cV := .ref (He.ga K "BadPrime")) (cv := (.ref (He.ga K "BadPrime"))) [1011] T.ea (by exact (T.i_BadPrime).ex) (by exact fun _ h => h) (by exact (pe_glob rfl T.g_BadPrime rfl)) (d_var 0) (by exact rfl) T.b_isinstance) (d_cons (d_xoIs (cV := .ref (He.ga K "BadRule")) (cv := (.ref (He.ga K "BadRule"))) [1003] T.ea (by exact (T.i_BadRule).ex) (by exact fun _ h => h) (by exact (pe_glob rfl T.g_BadRule rfl)) (d_var 0) (by exact rfl) T.b_isinstance) (d_cons (d_xoIs (cV := .ref (He.ga K "BadShares")) (cv := (.ref (He.ga K "BadShares"))) [1002] T.ea (by exact (T.i_BadShares).ex) (by exact fun _ h => h) (by exact (pe_glob rfl T.g_BadShares rfl)) (d_var 0) (by exact rfl) T.b_isinstance) d_nil)))))) (ds_cons (ds_set (i := 1) sc__law_sorts.nd rfl (Or.inl rfl) (d_add (d_var 1) (d_lst (d_cons (d_xoIs (cV := .ref (He.ga K "BadText")) (cv := (.ref (He.ga K "BadText"))) [1012] T.ea (by exact (T.i_BadText).ex) (by exact fun _ h => h) (by exact (pe_glob rfl T.g_BadText rfl)) (d_var 0) (by exact rfl) T.b_isinstance) (d_cons (d_xoIs (cV := .ref (He.ga K "Full")) (cv := (.ref (He.ga K "Full"))) [1013] T.ea (by exact (T.i_Full).ex) (by exact fun _ h => h) (by exact (pe_glob rfl T.g_Full rfl)) (d_var 0) (by exact rfl) T.b_isinstance) (d_cons (d_xoIs (cV := .ref (He.ga K "NoneOpens")) (cv := (.ref (He.ga K "NoneOpens"))) [1004] T.ea (by exact (T.i_NoneOpens).ex) (by exact fun _ h => h) (by exact (pe_glob rfl T.g_NoneOpens rfl)) (d_var 0) (by exact rfl) T.b_isinstance) d_nil)))))) (ds_cons (ds_set (i := 1) sc__law_sorts.nd rfl (Or.inl rfl) (d_add (d_var 1) (d_lst (d_cons (d_xoIs (cV := .ref (He.ga K "NothingToUndo")) (cv := (.ref (He.ga K "NothingToUndo"))) [1014] T.ea (by exact (T.i_NothingToUndo).ex) (by exact fun _ h => h) (by exact (pe_glob rfl T.g_NothingToUndo rfl)) (d_var 0) (by exact rfl) T.b_isinstance) (d_cons (d_xoIs (cV := .ref (He.ga K "OpensAlone")) (cv := (.ref (He.ga K "OpensAlone"))) [1007] T.ea (by exact (T.i_OpensAlone).ex) (by exact fun _ h => h) (by exact (pe_glob rfl T.g_OpensAlone rfl)) (d_var 0) (by exact rfl) T.b_isinstance) (d_cons (d_xoIs (cV := .ref (He.ga K "UnlikePeople")) (cv := (.ref (He.ga K "UnlikePeople"))) [1017] T.ea (by exact (T.i_UnlikePeople).ex) (by exact fun _ h => h) (by exact (pe_glob rfl T.g_UnlikePeople rfl)) (d_var 0) (by exact rfl) T.b_isinstance) d_nil)))))) (ds_cons (ds_set (i := 1) sc__law_sorts.nd rfl (Or.inl rfl) (d_add (d_var 1) (d_lst (d_cons (d_xoIs (cV := .ref (He.ga K "BadParts")) (cv := (.ref (He.ga K "BadParts"))) [1010] T.ea (by exact (T.i_BadParts).ex) (by exact fun _ h => h) (by exact (pe_glob rfl T.g_BadParts rfl)) (d_var 0) (by exact rfl) T.b_isinstance) (d_cons (d_xoIs (cV := .ref (He.ga K "TooMany")) (cv := (.ref (He.ga K "TooMany"))) [1015] T.ea (by exact (T.i_TooMany).ex) (by exact fun _ h => h) (by exact (pe_glob rfl T.g_TooMany rfl)) (d_var 0) (by exact rfl) T.b_isinstance) (d_cons (d_xoIs (cV := .ref (He.ga K "TooWide")) (cv := (.ref (He.ga K "TooWide"))) [1016] T.ea (by exact (T.i_TooWide).ex) (by exact fun _ h => h) (by exact (pe_glob rfl T.g_TooWide rfl)) (d_var 0) (by exact rfl) T.b_isinstance) d_nil)))))) (ds_cons (ds_set (i := 1) sc__law_sorts.nd rfl (Or.inl rfl) (d_add (d_var 1) (d_lst (d_cons (d_xoIs (cV := .ref (He.ga K "NoGroup")) (cv := (.ref (He.ga K "NoGroup"))) [1005] T.ea (by exact (T.i_NoGroup).ex) (by exact fun _ h => h) (by exact (pe_glob rfl T.g_NoGroup rfl)) (d_var 0) (by exact rfl) T.b_isinstance) (d_cons (d_xoIs (cV := .ref (He.ga K "NoPerson")) (cv := (.ref (He.ga K "NoPerson"))) [1006] T.ea (by exact (T.i_NoPerson).ex) (by exact fun _ h => h) (by exact (pe_glob rfl T.g_NoPerson rfl)) (d_var 0) (by exact rfl) T.b_isinstance) (d_cons (d_xoIs (cV := .ref (He.ga K "PortError")) (cv := (.ref (He.ga K "PortError"))) [1000, 1008, 1001, 1009, 1010, 1011, 1003, 1002, 1012, 1013, 1004, 1014, 1007, 1015, 1016, 1017] T.ea (by exact (T.i_PortError).ex) (by exact fun _ h => h) (by exact (pe_glob rfl T.g_PortError rfl)) (d_var 0) (by exact rfl) T.b_isinstance) d_nil)))))) (ds_cons (ds_set (i := 1) sc__law_sorts.nd rfl (Or.inl rfl) (d_add (d_var 1) (d_lst (d_cons (d_xoIs (cV := .ty "ValueError") (cv := (.type "ValueError")) [1000, 1008, 1001, 1009, 1010, 1011, 1003, 1002, 1012, 1013, 1004, 1014, 1007, 1015, 1016, 1017] T.ea (by exact (T.i_ValueError).ex) (by exact fun _ h => h) (by exact (pe_bltn (v := .ty "ValueError") rfl T.b_ValueError (by decide +kernel) rfl)) (d_var 0) (by exact rfl) T.b_isinstance) (d_cons (d_xoIs (cV := .ty "LookupError") (cv := (.type "LookupError")) [1005, 1006] T.ea (by exact (T.i_LookupError).ex) (by exact fun _ h => h) (by exact (pe_bltn (v := .ty "LookupError") rfl T.b_LookupError (by decide +kernel) rfl)) (d_var 0) (by exact rfl) T.b_isinstance) (d_cons (d_xoIs (cV := .ty "KeyError") (cv := (.type "KeyError")) [] T.ea (by exact (T.i_KeyError).ex) (by exact fun _ h => h) (by exact (pe_bltn (v := .ty "KeyError") rfl T.b_KeyError (by decide +kernel) rfl)) (d_var 0) (by exact rfl) T.b_isinstance) d_nil)))))) (ds_one (ds_ret (d_add (d_var 1) (d_lst (d_cons (d_xoIs (cV := .ty "IndexError") (cv := (.type "IndexError")) [] T.ea (by exact (T.i_IndexError).ex) (by exact fun _ h => h) (by exact (pe_bltn (v := .ty "IndexError") rfl T.b_IndexError (by decide +kernel) rfl)) (d_var 0) (by exact rfl) T.b_isinstance) d_nil))))))))))))
theorem okG_law (T : Tp P w K CM mg base) {fa : Addr} {fd : FuncData} (F : FunD K "law" "law" (defArgs s_law) (defBody s_law) (defScope s_law) [] [] fa fd) (hm : mg "law" = some (.ref fa)) : FnG P w K mg base 4 fa fd ["_law_script"] (spD K CM 1 F_law) := by
  refine def_ofG (ps := ["_law_script"]) (b := b_law) F hm sc_law (fun _ _ _ _ _ _ us hl => match us, hl with | [_], _ => rfl) fun cdv A outer s H E hgd hr tk => ?_
  have hu := hr.units
  exact (ds_cons (ds_set (i := 1) sc_law.nd rfl (Or.inl rfl) (d_call (ok__law_deck T) (hr.mono (by decide)) hgd tk (d_cons (d_var 0) d_nil))) (ds_cons (ds_set (i := 2) sc_law.nd rfl (Or.inl rfl) (d_lst (d_cons (d_con T.c_MAX_EDITS) (d_cons (d_con T.c_MAX_LAID) (d_cons (d_con T.c_MAX_PARTS) (d_cons (d_con T.c_MAX_PEOPLE) (d_cons (d_con T.c_MAX_TARGETS) (d_cons (d_con T.c_MAX_VECTORS) (d_cons (d_con T.c_MAX_WIDTH) (d_cons (d_con T.c_PRIMES) d_nil)))))))))) (ds_cons (ds_if (d_tcmp (op_neP hu) br_ne (d_callB (cr_repr T.sys hgd hu) br_repr rfl T.b_repr (by decide +kernel) (d_cons (d_var 2) d_nil)) (d_callB (cr_repr T.sys hgd hu) br_repr rfl T.b_repr (by decide +kernel) (d_cons (d_lst (d_cons d_int (d_cons d_int (d_cons d_int (d_cons d_int (d_cons d_int (d_cons d_int (d_cons d_int (d_cons (d_tup (d_cons d_int (d_cons d_int (d_cons d_int (d_cons d_int (d_cons d_int (d_cons d_int d_nil))))))) d_nil))))))))) d_nil))) (ds_one (ds_ret d_bl)) ds_nil) (ds_cons (ds_for (passes_of rfl) rfl (d_itRg1 rfl T.b_range (d_cons d_int d_nil) (hl := one_args _)) (tg_name (i := 3) sc_law.nd rfl (Or.inl rfl)) (ds_cons (ds_par (i := 4) (j := 5) rfl sc_law.nd rfl rfl (by decide) rfl rfl (d_cons (d_call (ok__law_odd T) (hr.mono (by decide)) hgd tk (d_cons (d_var 1) d_nil)) (d_cons (d_call (ok__law_one T) (hr.mono (by decide)) hgd tk (d_cons (d_var 1) (d_cons (d_lst (d_cons (d_call (ok__law_odd T) (hr.mono (by decide)) hgd tk (d_cons (d_var 1) d_nil)) (d_cons d_str (d_cons (d_pow d_int d_int) (d_cons (d_tup (d_cons (d_tup (d_cons d_int (d_cons d_int d_nil))) (d_cons d_non d_nil))) d_nil))))) d_nil))) d_nil)) rfl) (ds_cons (ds_set (i := 6) sc_law.nd rfl (Or.inl rfl) (d_call (ok__law_errors T) (hr.mono (by decide)) hgd tk (d_cons (d_var 4) (d_cons (d_var 5) d_nil)))) (ds_cons (ds_set (i := 7) sc_law.nd rfl (Or.inl rfl) (d_lst (d_cons (d_xoF T.ea (by decide) (d_idx (d_var 6) d_int)) (d_cons (d_xoF T.ea (by decide) (d_idx (d_var 6) d_int)) (d_cons (d_xoF T.ea (by decide) (d_idx (d_var 6) d_int)) (d_cons (d_xoF T.ea (by decide) (d_idx (d_var 6) d_int)) (d_cons (d_xoF T.ea (by decide) (d_idx (d_var 6) d_int)) (d_cons (d_xoF T.ea (by decide) (d_idx (d_var 6) d_int)) d_nil)))))))) (ds_cons (ds_set (i := 7) sc_law.nd rfl (Or.inl rfl) (d_add (d_var 7) (d_lst (d_cons (d_xoF T.ea (by decide) (d_idx (d_var 6) d_int)) (d_cons (d_xoF T.ea (by decide) (d_idx (d_var 6) d_int)) (d_cons (d_xoF T.ea (by decide) (d_idx (d_var 6) d_int)) (d_cons (d_xoF T.ea (by decide) (d_idx (d_var 6) d_int)) (d_cons (d_xoF T.ea (by decide) (d_idx (d_var 6) d_int)) d_nil)))))))) (ds_cons (ds_if (PW.pt (d_tor (d_tcmp (op_neP hu) br_ne (d_callB (cr_repr T.sys hgd hu) br_repr rfl T.b_repr (by decide +kernel) (d_cons (d_var 7) d_nil)) (d_callB (cr_repr T.sys hgd hu) br_repr rfl T.b_repr (by decide +kernel) (d_cons (d_mul (d_lst (d_cons (d_var 4) d_nil)) d_int) d_nil))) (d_tor1 (d_tcmp (op_neP hu) br_ne (d_callB (cr_repr T.sys hgd hu) br_repr rfl T.b_repr (by decide +kernel) (d_cons (d_lst (d_cons (d_xoF T.ea (by decide) (d_idx (d_var 6) d_int)) (d_cons (d_xoF T.ea (by decide) (d_idx (d_var 6) d_int)) d_nil))) d_nil)) (d_callB (cr_repr T.sys hgd hu) br_repr rfl T.b_repr (by decide +kernel) (d_cons (d_mul (d_lst (d_cons (d_var 5) d_nil)) d_int) d_nil)))))) (ds_one (ds_ret d_bl)) ds_nil) (ds_one (ds_for (passes_of rfl) rfl (d_itEn rfl T.b_enumerate (d_cons (d_var 6) d_nil)) (tg_tup rfl (tgs_cons (tg_name (i := 8) sc_law.nd rfl (Or.inr rfl)) (tgs_cons (tg_name (i := 9) sc_law.nd rfl (Or.inl rfl)) tgs_nil))) (ds_cons (ds_set (i := 10) sc_law.nd rfl (Or.inl rfl) (d_cmp (op_ltS hu) br_ord (d_var 8) d_int)) (ds_cons (ds_set (i := 11) sc_law.nd rfl (Or.inl rfl) (d_add (d_comp rfl sc_law.nd (own := [(("_law_at" : Str), 12)]) (d_itRg1 rfl T.b_range (d_cons d_int d_nil) (hl := one_args _)) bk_law_0 (fun _ _ _ _ _ => (pg_name (i := 12) sc_law.nd rfl (Or.inl rfl))) tb_name (fun _ _ _ _ _ => pts_yes) (fun _ _ _ _ _ => (d_cmp (op_eqP hu) br_eq (d_var 12) (d_var 8)))) (d_lst (d_cons (d_var 10) (d_cons (d_var 10) (d_cons (d_not (d_var 10)) (d_cons d_bl (d_cons d_bl d_nil)))))))) (ds_one (ds_if (d_tcmp (op_neP hu) br_ne (d_call (ok__law_sorts T) (hr.mono (by decide)) hgd tk (d_cons (d_var 9) d_nil)) (d_var 11)) (ds_one (ds_ret d_bl)) ds_nil)))))))))))) (ds_one (ds_ret d_bl))))))
end
theorem exl_at {K : PySem.W.Frag} (h : ex K = true) (i : Nat) {b : Bool} (e : (exl K)[i]? = some b) : b = true := List.all_eq_true.mp h b (List.mem_of_getElem? e)
theorem tp_of {P : Program} {w : World} {K : PySem.W.Frag} {h base : Heap} {mg : Str → Option Value} (X : K.In h) (G : h.Ns mainGlobals mg) (c : SaysP fa fn ex K) (own : OwnAll K (tblC K tbl [] (pwO P w))) : Tp P w K (tblC K tbl [] (pwO P w)) mg base := by
  have hx : ex K = true := c.ex
  exact {
    f__law_deck := def_P X G c 0 0
    f__law_errors := def_P X G c 1 1
    f__law_take := def_P X G c 2 2
    f__law_one := def_P X G c 3 3
    f__law_odd := def_P X G c 4 4
    f__law_sorts := def_P X G c 5 5
    f_law := def_P X G c 6 6
    b_repr := free_P X G c 7
    b_range := free_P X G c 8
    b_enumerate := free_P X G c 9
    b_abs := free_P X G c 10
    b_list := free_P X G c 11
    b_len := free_P X G c 12
    b_isinstance := free_P X G c 13
    b_KeyError := free_P X G c 14
    b_LookupError := free_P X G c 15
    b_ValueError := free_P X G c 16
    b_IndexError := free_P X G c 17
    c_PRIMES := tup_P X G c 36 cv_PRIMES (exl_at hx 0 rfl)
    c_MAX_WIDTH := int_P X G c 37
    c_MAX_VECTORS := int_P X G c 38
    c_MAX_TARGETS := int_P X G c 39
    c_MAX_PEOPLE := int_P X G c 40
    c_MAX_PARTS := int_P X G c 41
    c_MAX_LAID := int_P X G c 42
    c_MAX_EDITS := int_P X G c 43
    ea := errB_ok (exl_at hx 1 rfl)
    j_BadText := xcjB_ok (exl_at hx 2 rfl) (tblC.mem 8) (He.glo_ok X G (c.d.fact 26 (f := .glo "BadText") rfl)) (meth_P c 7)
    j_BadRule := xcjB_ok (exl_at hx 3 rfl) (tblC.mem 6) (He.glo_ok X G (c.d.fact 24 (f := .glo "BadRule") rfl)) (meth_P c 8)
    j_BadPrime := xcjB_ok (exl_at hx 4 rfl) (tblC.mem 5) (He.glo_ok X G (c.d.fact 23 (f := .glo "BadPrime") rfl)) (meth_P c 9)
    j_BadNames := xcjB_ok (exl_at hx 5 rfl) (tblC.mem 3) (He.glo_ok X G (c.d.fact 21 (f := .glo "BadNames") rfl)) (meth_P c 10)
    j_BadGroup := xcjB_ok (exl_at hx 6 rfl) (tblC.mem 2) (He.glo_ok X G (c.d.fact 20 (f := .glo "BadGroup") rfl)) (meth_P c 11)
    j_BadDraws := xcjB_ok (exl_at hx 7 rfl) (tblC.mem 1) (He.glo_ok X G (c.d.fact 19 (f := .glo "BadDraws") rfl)) (meth_P c 12)
    j_UnlikePeople := xcjB_ok (exl_at hx 8 rfl) (tblC.mem 15) (He.glo_ok X G (c.d.fact 33 (f := .glo "UnlikePeople") rfl)) (meth_P c 13)
    j_OpensAlone := xcjB_ok (exl_at hx 9 rfl) (tblC.mem 12) (He.glo_ok X G (c.d.fact 30 (f := .glo "OpensAlone") rfl)) (meth_P c 14)
    j_NoPerson := xcjB_ok (exl_at hx 10 rfl) (tblC.mem 17) (He.glo_ok X G (c.d.fact 35 (f := .glo "NoPerson") rfl)) (meth_P c 15)
    j_NoGroup := xcjB_ok (exl_at hx 11 rfl) (tblC.mem 16) (He.glo_ok X G (c.d.fact 34 (f := .glo "NoGroup") rfl)) (meth_P c 16)
    j_TooMany := xcjB_ok (exl_at hx 12 rfl) (tblC.mem 13) (He.glo_ok X G (c.d.fact 31 (f := .glo "TooMany") rfl)) (meth_P c 17)
    x_BadShares := xc0B_ok (exl_at hx 13 rfl) (tblC.mem 7) (He.glo_ok X G (c.d.fact 25 (f := .glo "BadShares") rfl))
    x_NothingToUndo := xc0B_ok (exl_at hx 14 rfl) (tblC.mem 11) (He.glo_ok X G (c.d.fact 29 (f := .glo "NothingToUndo") rfl))
    x_NoneOpens := xc0B_ok (exl_at hx 15 rfl) (tblC.mem 10) (He.glo_ok X G (c.d.fact 28 (f := .glo "NoneOpens") rfl))
    x_Full := xc0B_ok (exl_at hx 16 rfl) (tblC.mem 9) (He.glo_ok X G (c.d.fact 27 (f := .glo "Full") rfl))
    x_TooWide := xc0B_ok (exl_at hx 17 rfl) (tblC.mem 14) (He.glo_ok X G (c.d.fact 32 (f := .glo "TooWide") rfl))
    x_BadParts := xc0B_ok (exl_at hx 18 rfl) (tblC.mem 4) (He.glo_ok X G (c.d.fact 22 (f := .glo "BadParts") rfl))
    i_BadNames := kitB_ok (exl_at hx 19 rfl)
    g_BadNames := He.glo_ok X G (c.d.fact 21 (f := .glo "BadNames") rfl)
    i_BadGroup := kitB_ok (exl_at hx 20 rfl)
    g_BadGroup := He.glo_ok X G (c.d.fact 20 (f := .glo "BadGroup") rfl)
    i_BadDraws := kitB_ok (exl_at hx 21 rfl)
    g_BadDraws := He.glo_ok X G (c.d.fact 19 (f := .glo "BadDraws") rfl)
    i_BadShares := kitB_ok (exl_at hx 22 rfl)
    g_BadShares := He.glo_ok X G (c.d.fact 25 (f := .glo "BadShares") rfl)
    i_BadRule := kitB_ok (exl_at hx 23 rfl)
    g_BadRule := He.glo_ok X G (c.d.fact 24 (f := .glo "BadRule") rfl)
    i_BadPrime := kitB_ok (exl_at hx 24 rfl)
    g_BadPrime := He.glo_ok X G (c.d.fact 23 (f := .glo "BadPrime") rfl)
    i_NoneOpens := kitB_ok (exl_at hx 25 rfl)
    g_NoneOpens := He.glo_ok X G (c.d.fact 28 (f := .glo "NoneOpens") rfl)
    i_Full := kitB_ok (exl_at hx 26 rfl)
    g_Full := He.glo_ok X G (c.d.fact 27 (f := .glo "Full") rfl)
    i_BadText := kitB_ok (exl_at hx 27 rfl)
    g_BadText := He.glo_ok X G (c.d.fact 26 (f := .glo "BadText") rfl)
    i_UnlikePeople := kitB_ok (exl_at hx 28 rfl)
    g_UnlikePeople := He.glo_ok X G (c.d.fact 33 (f := .glo "UnlikePeople") rfl)
    i_OpensAlone := kitB_ok (exl_at hx 29 rfl)
    g_OpensAlone := He.glo_ok X G (c.d.fact 30 (f := .glo "OpensAlone") rfl)
    i_NothingToUndo := kitB_ok (exl_at hx 30 rfl)
    g_NothingToUndo := He.glo_ok X G (c.d.fact 29 (f := .glo "NothingToUndo") rfl)
    i_TooWide := kitB_ok (exl_at hx 31 rfl)
    g_TooWide := He.glo_ok X G (c.d.fact 32 (f := .glo "TooWide") rfl)
    i_TooMany := kitB_ok (exl_at hx 32 rfl)
    g_TooMany := He.glo_ok X G (c.d.fact 31 (f := .glo "TooMany") rfl)
    i_BadParts := kitB_ok (exl_at hx 33 rfl)
    g_BadParts := He.glo_ok X G (c.d.fact 22 (f := .glo "BadParts") rfl)
    i_PortError := kitB_ok (exl_at hx 34 rfl)
    g_PortError := He.glo_ok X G (c.d.fact 18 (f := .glo "PortError") rfl)
    i_NoPerson := kitB_ok (exl_at hx 35 rfl)
    g_NoPerson := He.glo_ok X G (c.d.fact 35 (f := .glo "NoPerson") rfl)
    i_NoGroup := kitB_ok (exl_at hx 36 rfl)
    g_NoGroup := He.glo_ok X G (c.d.fact 34 (f := .glo "NoGroup") rfl)
    i_KeyError := kitB_ok (exl_at hx 37 rfl)
    i_LookupError := kitB_ok (exl_at hx 38 rfl)
    i_ValueError := kitB_ok (exl_at hx 39 rfl)
    i_IndexError := kitB_ok (exl_at hx 40 rfl)
    sys := c.sys
    pw := rfl
    own := own }
theorem facts {P : Program} {w : World} {K : PySem.W.Frag} {h : Heap} {mg : Str → Option Value} {f : Addr} (X : K.In h) (G : h.Ns mainGlobals mg) (hfa : mg ("law" : Str) = some (.ref f)) (c : SaysP fa fn ex K) :
    ∃ (fd : FuncData) (CM : CMap) (cs : List (Addr × Addr)), (∀ (s : Shared) (u : Value), BindsTo s fd ⟨[u], []⟩ [("_law_script", u)]) ∧ (TabsH K mg h cs ∧ TabC CM cs) ∧ ∀ base : Heap, K.In base → base.Ns mainGlobals mg → (∀ p ∈ cs, LamX.TabB base mg p.1 p.2) → FnG P w K mg base 4 f fd ["_law_script"] (spD K CM 1 F_law) := by
  obtain ⟨f2, fd, F, hm⟩ := (def_P X G c 6 6 : DefG K mg "law" s_law).ex
  have e := hfa.symm.trans hm
  cases e
  have b := FunD.bindsA (ps := ["_law_script"]) F fun _ _ _ _ _ _ us hl => match us, hl with | [_], _ => rfl
  exact ⟨fd, tblC K tbl [] (pwO P w), [], fun s v => b s [v] rfl, ⟨⟨fun _ z => (by cases z), fun _ z => (by cases z), fun _ z => (by cases z)⟩, ⟨fun _ z => (by cases z), rfl, rfl, rfl⟩⟩, fun base _ _ _ => okG_law (tp_of X G c (own_errs (by decide))) F hm⟩
end G
-- ORDER _law_deck _law_errors _law_take _law_one _law_odd _law_sorts law
-- LEVEL 4

namespace G
open PySem PySem.Spec PyProof.Rows L2 DL
structure Dk where
  g : Int
  s : Int
  c : Int
def Dk.ok (d : Dk) : Prop := 0 ≤ d.s ∧ d.s < 2305843009213693951
theorem mulL {i j : Int} (h0 : -(2 ^ 64) < i) (h1 : i < 2 ^ 64) : CMul i j := Or.inl ⟨h0, h1⟩
theorem mulR {i j : Int} (h0 : -(2 ^ 64) < j) (h1 : j < 2 ^ 64) : CMul i j := Or.inr ⟨h0, h1⟩
theorem atI_in {ds : List D} {y : Int} (h0 : 0 ≤ y) (h1 : y < ds.length) : ∃ x ∈ ds, atI ds y = some x := by
  have hn : y.toNat < ds.length := by omega
  refine ⟨ds[y.toNat], List.getElem_mem hn, ?_⟩
  unfold atI ixN
  rw [if_pos h0, if_pos h1]
  show ds[y.toNat]? = _
  exact List.getElem?_eq_getElem hn
def TVec (p : Int) (n : Nat) (d : D) : Prop := ∃ xs : List Int, d = .tup (xs.map .int) ∧ xs.length = n ∧ ∀ x ∈ xs, 0 ≤ x ∧ x < p
theorem low_ints (xs : List Int) : lowL 0 (xs.map .int) = true := lowL_iff.mpr fun d hd => by
  obtain ⟨x, _, rfl⟩ := List.mem_map.mp hd
  rfl
theorem TVec.low {p : Int} {n : Nat} {d : D} (t : TVec p n d) : low 0 d = true := by
  obtain ⟨xs, rfl, _⟩ := t
  exact low_ints xs
theorem rg_len {a b : Int} : ((rgI a b).map D.int).length = (b - a).toNat := by simp [rgI]
theorem take_min {α : Type} {xs : List α} {k : Nat} : xs.take (min k xs.length) = xs.take k := by
  by_cases h : k ≤ xs.length
  · rw [Nat.min_eq_left h]
  · rw [Nat.min_eq_right (by omega), List.take_length, List.take_of_length_le (by omega)]
theorem cut_to {α : Type} {xs : List α} {k : Int} (h0 : 0 ≤ k) : DL.cutD xs none (some k) = xs.take k.toNat := by
  show (xs.drop 0).take ((if k < 0 then (k + (xs.length : Int)).toNat else min k.toNat xs.length) - 0) = _
  rw [if_neg (by omega), List.drop_zero, Nat.sub_zero, take_min]
def TTgt (p : Int) (n : Nat) (d : D) : Prop := ∃ xs : List Int, d = .tup (xs.map .int) ∧ xs.length = n ∧ (∀ x ∈ xs, 0 ≤ x ∧ x < p) ∧ ∃ x ∈ xs, x ≠ 0
/-- vectors of so many numbers below p -/
def TRow (p : Int) (n m : Nat) (d : D) : Prop := ∃ vs : List D, d = .tup vs ∧ vs.length ≤ m ∧ ∀ v ∈ vs, TVec p n v
theorem TRow.low {p : Int} {n m : Nat} {d : D} (t : TRow p n m d) : low 0 d = true := by
  obtain ⟨vs, rfl, _, h⟩ := t
  exact lowL_iff.mpr fun v hv => (h v hv).low
theorem TTgt.low {p : Int} {n : Nat} {d : D} (t : TTgt p n d) : low 0 d = true := by
  obtain ⟨xs, rfl, _⟩ := t
  exact low_ints xs
def nz (x : D) : Bool := match x with
  | .int i => !decide (i = 0)
  | _ => false
def lenD (x : D) : Nat := match x with
  | .tup ds => ds.length
  | _ => 0
theorem end_same {h : List Cell} {Q : D → List Cell → Prop} {d : D} (hf : FlatH h) (hd : low 0 d = true) (q : Q d h) : endP h.length Q d h := endP_same hf hd q
theorem all_fit {ds : List D} {n k : Nat} (h : (ds.all fun x => pdB x && (decide (wt x ≤ n) && decide (dp x ≤ k))) = true) : ∀ x ∈ ds, Fit n k x := fun x hx => by
  have := List.all_eq_true.mp h x hx
  simp only [Bool.and_eq_true, decide_eq_true_eq] at this
  exact ⟨this.1, this.2.1, this.2.2⟩
def dot (xs ys : List Int) : Int := (List.zipWith (fun a b => a * b) xs ys).sum
def ROk (p : Int) (n : Nat) (xs : List Int) : Prop := xs.length = n ∧ ∀ x ∈ xs, 0 ≤ x ∧ x < p
theorem unpack2 {a b : D} {env : En} {h : List Cell} {i j : Nat} : gT 2 (gsCons (gN i) (gsCons (gN j) gsNil)) (.tup [a, b]) env h = some ((env.set i (some a)).set j (some b)) := rfl
theorem low_lints {xs : List Int} : low 0 (.lst (xs.map .int)) = true := low_ints xs
def isSq (row : D) (xs : List Int) : Prop := row = .tup (xs.map .int) ∨ row = .lst (xs.map .int)
def prs : List Int := [2, 3, 5, 7, 11, 13]
/-- a row of such rows -/
def RowsD (p : Int) (n : Nat) (ds : List D) (rows : List (List Int)) : Prop := ds.length = rows.length ∧ ∀ q ∈ List.zip ds rows, isSq q.1 q.2 ∧ ROk p n q.2
theorem RowsD.cons {p : Int} {n : Nat} {d : D} {ds : List D} {rows : List (List Int)} (h : RowsD p n (d :: ds) rows) : ∃ xs rs, rows = xs :: rs ∧ isSq d xs ∧ ROk p n xs ∧ RowsD p n ds rs := by
  cases rows with
  | nil => exact absurd h.1 (by simp)
  | cons xs rs =>
    have := h.2 (d, xs) (by simp)
    exact ⟨xs, rs, rfl, this.1, this.2, by simpa using h.1, fun q hq => h.2 q (by rw [List.zip_cons_cons]; exact List.mem_cons_of_mem _ hq)⟩
theorem RowsD.nil {p : Int} {n : Nat} {rows : List (List Int)} (h : RowsD p n [] rows) : rows = [] := by
  cases rows with
  | nil => rfl
  | cons x xs => exact absurd h.1 (by simp)
/-- a row with what it comes to, at draws -/
def satZ (p : Int) (r x : List Int) : Prop := dot r (x ++ [-1]) % p = 0
instance (p : Int) (r x : List Int) : Decidable (satZ p r x) := inferInstanceAs (Decidable (_ = _))
section
variable {Q : D → List Cell → Prop} {E : D → List Cell → Prop} {h : List Cell}
end
section
variable {Q : D → List Cell → Prop} {E : D → List Cell → Prop} {h : List Cell}
end
section
variable {Q : D → List Cell → Prop} {E : D → List Cell → Prop} {h : List Cell}
end
section
variable {Q : D → List Cell → Prop} {E : D → List Cell → Prop} {h : List Cell}
end
section
variable {Q : D → List Cell → Prop} {E : D → List Cell → Prop} {h : List Cell}
end
section
variable {Q : D → List Cell → Prop} {E : D → List Cell → Prop} {h : List Cell}
end
section
variable {Q : D → List Cell → Prop} {E : D → List Cell → Prop} {h : List Cell}
end
section
variable {Q : D → List Cell → Prop} {E : D → List Cell → Prop} {h : List Cell}
end
section
variable {Q : D → List Cell → Prop} {E : D → List Cell → Prop} {h : List Cell}
end
section
variable {Q : D → List Cell → Prop} {E : D → List Cell → Prop} {h : List Cell}
end
section
variable {Q : D → List Cell → Prop} {E : D → List Cell → Prop} {h : List Cell}
end
section
variable {Q : D → List Cell → Prop} {E : D → List Cell → Prop} {h : List Cell}
end
section
variable {Q : D → List Cell → Prop} {E : D → List Cell → Prop} {h : List Cell}
end
section
variable {Q : D → List Cell → Prop} {E : D → List Cell → Prop} {h : List Cell}
end
section
variable {Q : D → List Cell → Prop} {E : D → List Cell → Prop} {h : List Cell}
end
section
variable {Q : D → List Cell → Prop} {E : D → List Cell → Prop} {h : List Cell}
end
end G

-- DS5
-- DS6x
namespace G
open PySem PySem.Spec PyProof.Rows L2 DL
def GrpOk (n : Int) (x : List Int) : Prop := x.Pairwise (· < ·) ∧ ∀ i ∈ x, 0 ≤ i ∧ i < n
def sub (a b : List Int) : Bool := a.all fun i => decide (i ∈ b)
theorem grp_len : ∀ {x : List Int} {n k : Int}, x.Pairwise (· < ·) → (∀ i ∈ x, k ≤ i ∧ i < n) → k ≤ n → (x.length : Int) ≤ n - k
  | [], n, k, _, _, h => by simp; omega
  | a :: x, n, k, hp, hb, h => by
    obtain ⟨p1, p2⟩ := List.pairwise_cons.mp hp
    have ha := hb a List.mem_cons_self
    have := grp_len (x := x) (n := n) (k := a + 1) p2 (fun i hi => ⟨by have := p1 i hi; omega, (hb i (List.mem_cons_of_mem _ hi)).2⟩) (by omega)
    simp only [List.length_cons]
    omega
theorem GrpOk.len {n : Int} {x : List Int} (h : GrpOk n x) (hn : 0 ≤ n) : (x.length : Int) ≤ n := by
  have := grp_len (k := 0) h.1 h.2 hn
  omega
/-- a comprehension over a row that is the image of another -/
theorem comp_mapA {α : Type} {g : α → D} {all : List D} {l : List α} {tg : DG} {te : DE} {f : α → D} {env : En} {h : List Cell} (hs : ∀ x ∈ l, ∃ env1, tg (g x) env h = some env1 ∧ te env1 h = .ok (f x) h) : compL none all tg cYes te env (l.map g) h = .ok (l.map f) h := by
  induction l with
  | nil => rw [List.map_nil]; unfold compL; rw [if_pos (show Guard none all h from True.intro)]; rfl
  | cons x l ih =>
    obtain ⟨env1, e1, e2⟩ := hs x List.mem_cons_self
    rw [List.map_cons]
    unfold compL
    rw [if_pos (show Guard none all h from True.intro)]
    simp only [e1, cYes, e2, ih fun y hy => hs y (List.mem_cons_of_mem _ hy)]
    rfl
theorem wp_keyD {x : D} {s : Str} {h : List Cell} {Q E : D → List Cell → Prop} : wp (opKey x (.str s) h) Q E = onO (dicOf h x) fun kvs => onO (valD kvs (.inr s)) fun d => Q d h := by
  unfold opKey
  show wp (match dicOf h x, (some (Sum.inr s) : Option Key) with | some kvs, some k => (match valD kvs k with | some d => R.ok d h | none => .bad) | _, _ => .bad) Q E = _
  cases dicOf h x with
  | none => rfl
  | some kvs =>
    show wp (match valD kvs (.inr s) with | some d => R.ok d h | none => .bad) Q E = onO (valD kvs (.inr s)) fun d => Q d h
    cases valD kvs (.inr s) <;> rfl
theorem ws_setK {o i e : DE} {env : En} {h : List Cell} {P : SPost} : ws (sSetK o i e env h) P = wp (e env h) (fun y h1 => wp (o env h1) (fun x h2 => wp (i env h2) (fun k h3 => onO (setK x k y h3) fun h4 => P.nx env h4) (fun e h => P.ex e env h)) (fun e h => P.ex e env h)) (fun e h => P.ex e env h) := by
  unfold sSetK
  rw [ws_lift]
  congr 1
  funext y h1
  rw [ws_lift]
  congr 1
  funext x h2
  rw [ws_lift]
  congr 1
  funext k h3
  cases setK x k y h3 <;> rfl
def dkV (cs : List Int) (t g : Int) : List (Key × D) := [(.inr "cells", .lst (cs.map .int)), (.inr "turn", .int t), (.inr "great", .int g)]
def dkK (cs : List Int) (t g : Int) : Cell := .dic (dkV cs t g)
def DkI (b : Int) (c : Cell) : Prop := ∃ (cs : List Int) (t g : Int), c = dkK cs t g ∧ cs ≠ [] ∧ cs.length ≤ 59 ∧ 0 ≤ t ∧ t ≤ b ∧ 0 ≤ g
theorem DkI.mono {b b' : Int} {c : Cell} (h : DkI b c) (hb : b ≤ b') : DkI b' c := by
  obtain ⟨cs, t, g, e, h1, h2, h3, h4, h5⟩ := h
  exact ⟨cs, t, g, e, h1, h2, h3, by omega, h5⟩
theorem DkI.low {b : Int} {c : Cell} (h : DkI b c) : lowC 0 c = true := by
  obtain ⟨cs, t, g, rfl, _⟩ := h
  show (DL.low 0 (.lst (cs.map .int)) && (true && (true && true))) = true
  rw [low_lints]
  rfl
theorem dic_at {kvs : List (Key × D)} {r : List Cell} : dicOf (.dic kvs :: r) (.ref 0) = some kvs := rfl
theorem dkK_eq {cs : List Int} {t g : Int} : dkK cs t g = .dic (dkV cs t g) := rfl
theorem v_cells {cs : List Int} {t g : Int} : valD (dkV cs t g) (.inr "cells") = some (.lst (cs.map .int)) := rfl
theorem v_turn {cs : List Int} {t g : Int} : valD (dkV cs t g) (.inr "turn") = some (.int t) := rfl
theorem v_great {cs : List Int} {t g : Int} : valD (dkV cs t g) (.inr "great") = some (.int g) := rfl
theorem s_turn {cs : List Int} {t g t' : Int} {r : List Cell} : setK (.ref 0) (.str "turn") (.int t') (.dic (dkV cs t g) :: r) = some (.dic (dkV cs t' g) :: r) := rfl
theorem s_great {cs : List Int} {t g g' : Int} {r : List Cell} : setK (.ref 0) (.str "great") (.int g') (.dic (dkV cs t g) :: r) = some (.dic (dkV cs t g') :: r) := rfl
theorem end_dc {c : Cell} {r : List Cell} {Q : D → List Cell → Prop} {x : D} (hc : lowC 0 c = true) (hr : FlatH r) (hx : low 0 x = true) (q : Q x (c :: r)) : endP (r.length + 1) Q x (c :: r) :=
  ⟨hx, Nat.le_refl _, by rw [List.take_of_length_le (by simp)]; exact FlatH.cons hc hr, by rw [List.take_of_length_le (by simp)]; exact q⟩
theorem atI_map {α : Type} {f : α → D} {l : List α} {y : Int} (h0 : 0 ≤ y) (h1 : y < l.length) : ∃ x ∈ l, atI (l.map f) y = some (f x) := by
  obtain ⟨d, hd, e⟩ := atI_in (ds := l.map f) h0 (by simpa using h1)
  obtain ⟨x, hx, rfl⟩ := List.mem_map.mp hd
  exact ⟨x, hx, e⟩
theorem take_wp {b m : Int} {c : Cell} {r : List Cell} (hd : DkI b c) (hb : b < 1000000000000) (h0 : 0 < m) (h1 : m < 1073741824) (hr : FlatH r) {Q E : D → List Cell → Prop}
    (q : ∀ (y : Int) (c' : Cell), DkI (b + 1) c' → 0 ≤ y → y < m → Q (.int y) (c' :: r)) : wp (F__law_take [.ref 0, .int m] (c :: r)) Q E := by
  obtain ⟨cs, t, g, rfl, hne, hl, t0, t1, g0⟩ := hd
  have hpos : 0 < cs.length := List.length_pos_iff.mpr hne
  refine wp_fnD ?_
  rw [e__law_take]
  unfold b__law_take st__law_take_0 st__law_take_1 st__law_take_2 st__law_take_3 st__law_take_4
  simp only [wp_sum2L, wp_sum2T, wp_itZipM, zip_tl, wp_fld, wp_meth, wp_prop, wp_make, ws_fldS, own_obj, wp_eqTI0, wp_eqLI0, wp_eqTT0, wp_eqLT0, wp_eqTI, wp_eqLI, wp_eqTT, wp_eqLT, wp_inI, wp_inIL, wp_inT, wp_ltT, wp_srtTI, wp_srtLI, wp_srtTR, wp_srtLR, wp_srtSet, seq_T, seq_L, wp_min2, wp_max2, ws_while, wp_itEn, row_en, ws_augI, wp_mulLst, wp_tupRg1, wp_tupRg2, wp_lstRg1, wp_lstRg2, ws_raise, ws_raise0, ws_try, ct_nx, ct_rt, ct_bk, ct_ct, ct_ex, wp_errF, wp_errIs, asE_err, un_rt, un_nx, wp_itZip, zip_tt, zip_ll, wp_sumL, wp_okN, wp_excN, wp_var, getE_zero, getE_succ, onO_some, wp_K, wp_nil, wp_cons, wp_tup, wp_lst, wp_lstC, wp_c1, wp_c2, wp_call, wp_fn, wp_toT, asB_bl, wp_cif, wp_tand, wp_tor, wp_tnot, wp_isN, wp_notN, wp_and, wp_or, wp_not, wp_chain, wp_isa, wp_slice, wp_noP, wp_P, asI_int, wp_rev, wp_dic0, wp_app, ws_nxN, ws_rtN, fp_rt, fp_nx, fp_ex, seq_nx, seq_rt, seq_bk, seq_ct, seq_ex, ws_seq, ws_nil, ws_break, ws_cont, ws_retN, ws_expr, ws_ret, ws_set, ws_if, ws_setI, ws_asg, ws_par, ws_par3, as2_two, as3_three, wp_addI, wp_subI, wp_mulI, wp_divI, wp_modI, wp_powI, wp_negI, wp_gtI, wp_ltI, wp_leI, wp_geI, wp_addT, wp_addL, wp_lenT, wp_lenL, wp_intI, wp_intB, wp_absI, wp_tupL, wp_tupT, wp_listL, wp_listT, wp_sliceT, wp_sliceL, wp_revT, wp_revL, wp_idxT, wp_idxL, wp_eqI, wp_it, row_tup, row_lst, wp_itRg, rg_one', rg_two', wp_comp, wp_compC, ws_for, List.set_cons_zero, List.set_cons_succ, List.length_cons, List.length_nil, if_true, if_false, Bool.false_eq_true, Nat.reduceAdd, wp_keyD, ws_setK, dkK_eq, dic_at, v_turn, v_great, v_cells, s_turn, s_great]
  split
  · rename_i hg
    have hg := of_decide_eq_true hg
    refine ⟨h0, ⟨h0, h1⟩, ?_⟩
    have d' : DkI (b + 1) (dkK cs (t + 1) (g / m)) := ⟨cs, t + 1, g / m, rfl, hne, hl, by omega, by omega, Int.ediv_nonneg g0 (by omega)⟩
    exact end_dc d'.low hr rfl (q _ _ d' (Int.emod_nonneg _ (by omega)) (Int.emod_lt_of_pos _ h0))
  · have d' : DkI (b + 1) (dkK cs (t + 1) g) := ⟨cs, t + 1, g, rfl, hne, hl, by omega, by omega, g0⟩
    refine ⟨by simp only [List.length_map]; omega, ?_⟩
    obtain ⟨z, hz, e⟩ := atI_map (f := D.int) (l := cs) (y := (t + 1) % ((cs.map D.int).length : Nat)) (Int.emod_nonneg _ (by simp only [List.length_map]; omega)) (by have := Int.emod_lt_of_pos (t + 1) (b := (cs.map D.int).length) (by simp only [List.length_map]; omega); simpa using this)
    rw [e]
    have z1 := Int.emod_nonneg z (b := 2147483423) (by decide)
    have z2 := Int.emod_lt_of_pos z (b := 2147483423) (by decide)
    simp only [wp_sum2L, wp_sum2T, wp_itZipM, zip_tl, wp_fld, wp_meth, wp_prop, wp_make, ws_fldS, own_obj, wp_eqTI0, wp_eqLI0, wp_eqTT0, wp_eqLT0, wp_eqTI, wp_eqLI, wp_eqTT, wp_eqLT, wp_inI, wp_inIL, wp_inT, wp_ltT, wp_srtTI, wp_srtLI, wp_srtTR, wp_srtLR, wp_srtSet, seq_T, seq_L, wp_min2, wp_max2, ws_while, wp_itEn, row_en, ws_augI, wp_mulLst, wp_tupRg1, wp_tupRg2, wp_lstRg1, wp_lstRg2, ws_raise, ws_raise0, ws_try, ct_nx, ct_rt, ct_bk, ct_ct, ct_ex, wp_errF, wp_errIs, asE_err, un_rt, un_nx, wp_itZip, zip_tt, zip_ll, wp_sumL, wp_okN, wp_excN, wp_var, getE_zero, getE_succ, onO_some, wp_K, wp_nil, wp_cons, wp_tup, wp_lst, wp_lstC, wp_c1, wp_c2, wp_call, wp_fn, wp_toT, asB_bl, wp_cif, wp_tand, wp_tor, wp_tnot, wp_isN, wp_notN, wp_and, wp_or, wp_not, wp_chain, wp_isa, wp_slice, wp_noP, wp_P, asI_int, wp_rev, wp_dic0, wp_app, ws_nxN, ws_rtN, fp_rt, fp_nx, fp_ex, seq_nx, seq_rt, seq_bk, seq_ct, seq_ex, ws_seq, ws_nil, ws_break, ws_cont, ws_retN, ws_expr, ws_ret, ws_set, ws_if, ws_setI, ws_asg, ws_par, ws_par3, as2_two, as3_three, wp_addI, wp_subI, wp_mulI, wp_divI, wp_modI, wp_powI, wp_negI, wp_gtI, wp_ltI, wp_leI, wp_geI, wp_addT, wp_addL, wp_lenT, wp_lenL, wp_intI, wp_intB, wp_absI, wp_tupL, wp_tupT, wp_listL, wp_listT, wp_sliceT, wp_sliceL, wp_revT, wp_revL, wp_idxT, wp_idxL, wp_eqI, wp_it, row_tup, row_lst, wp_itRg, rg_one', rg_two', wp_comp, wp_compC, ws_for, List.set_cons_zero, List.set_cons_succ, List.length_cons, List.length_nil, if_true, if_false, Bool.false_eq_true, Nat.reduceAdd]
    refine ⟨by decide, mulL (by decide) (by decide), ⟨by decide, by decide, by omega⟩, by decide, ?_⟩
    have a1 := Int.emod_nonneg ((z % 2147483423 + 60029 * (t + 1) + 37) ^ Int.toNat 3) (b := 2147483543) (by decide)
    have a2 := Int.emod_lt_of_pos ((z % 2147483423 + 60029 * (t + 1) + 37) ^ Int.toNat 3) (b := 2147483543) (by decide)
    refine ⟨mulL (by omega) (by omega), mulL (by decide) (by decide), mulR (by omega) (by omega), by decide, ⟨by decide, by decide⟩, h0, ?_⟩
    exact end_dc d'.low hr rfl (q _ _ d' (Int.emod_nonneg _ (by omega)) (Int.emod_lt_of_pos _ h0))
theorem one_wp {b : Int} {c : Cell} {ds : List D} {r : List Cell} (hd : DkI b c) (hb : b < 1000000000000) (hne : ds ≠ []) (hl : ds.length < 1073741824) (hw : lowL 0 ds = true) (hr : FlatH r) {Q E : D → List Cell → Prop}
    (q : ∀ x ∈ ds, ∀ c' : Cell, DkI (b + 1) c' → Q x (c' :: r)) : wp (F__law_one [.ref 0, .lst ds] (c :: r)) Q E := by
  have hpos : 0 < ds.length := List.length_pos_iff.mpr hne
  refine wp_fnD ?_
  rw [e__law_one]
  unfold b__law_one st__law_one_0
  simp only [wp_sum2L, wp_sum2T, wp_itZipM, zip_tl, wp_fld, wp_meth, wp_prop, wp_make, ws_fldS, own_obj, wp_eqTI0, wp_eqLI0, wp_eqTT0, wp_eqLT0, wp_eqTI, wp_eqLI, wp_eqTT, wp_eqLT, wp_inI, wp_inIL, wp_inT, wp_ltT, wp_srtTI, wp_srtLI, wp_srtTR, wp_srtLR, wp_srtSet, seq_T, seq_L, wp_min2, wp_max2, ws_while, wp_itEn, row_en, ws_augI, wp_mulLst, wp_tupRg1, wp_tupRg2, wp_lstRg1, wp_lstRg2, ws_raise, ws_raise0, ws_try, ct_nx, ct_rt, ct_bk, ct_ct, ct_ex, wp_errF, wp_errIs, asE_err, un_rt, un_nx, wp_itZip, zip_tt, zip_ll, wp_sumL, wp_okN, wp_excN, wp_var, getE_zero, getE_succ, onO_some, wp_K, wp_nil, wp_cons, wp_tup, wp_lst, wp_lstC, wp_c1, wp_c2, wp_call, wp_fn, wp_toT, asB_bl, wp_cif, wp_tand, wp_tor, wp_tnot, wp_isN, wp_notN, wp_and, wp_or, wp_not, wp_chain, wp_isa, wp_slice, wp_noP, wp_P, asI_int, wp_rev, wp_dic0, wp_app, ws_nxN, ws_rtN, fp_rt, fp_nx, fp_ex, seq_nx, seq_rt, seq_bk, seq_ct, seq_ex, ws_seq, ws_nil, ws_break, ws_cont, ws_retN, ws_expr, ws_ret, ws_set, ws_if, ws_setI, ws_asg, ws_par, ws_par3, as2_two, as3_three, wp_addI, wp_subI, wp_mulI, wp_divI, wp_modI, wp_powI, wp_negI, wp_gtI, wp_ltI, wp_leI, wp_geI, wp_addT, wp_addL, wp_lenT, wp_lenL, wp_intI, wp_intB, wp_absI, wp_tupL, wp_tupT, wp_listL, wp_listT, wp_sliceT, wp_sliceL, wp_revT, wp_revL, wp_idxT, wp_idxL, wp_eqI, wp_it, row_tup, row_lst, wp_itRg, rg_one', rg_two', wp_comp, wp_compC, ws_for, List.set_cons_zero, List.set_cons_succ, List.length_cons, List.length_nil, if_true, if_false, Bool.false_eq_true, Nat.reduceAdd, true_and]
  refine take_wp hd hb (by omega) (by omega) hr fun y c' hd' h0 h1 => ?_
  simp only [wp_sum2L, wp_sum2T, wp_itZipM, zip_tl, wp_fld, wp_meth, wp_prop, wp_make, ws_fldS, own_obj, wp_eqTI0, wp_eqLI0, wp_eqTT0, wp_eqLT0, wp_eqTI, wp_eqLI, wp_eqTT, wp_eqLT, wp_inI, wp_inIL, wp_inT, wp_ltT, wp_srtTI, wp_srtLI, wp_srtTR, wp_srtLR, wp_srtSet, seq_T, seq_L, wp_min2, wp_max2, ws_while, wp_itEn, row_en, ws_augI, wp_mulLst, wp_tupRg1, wp_tupRg2, wp_lstRg1, wp_lstRg2, ws_raise, ws_raise0, ws_try, ct_nx, ct_rt, ct_bk, ct_ct, ct_ex, wp_errF, wp_errIs, asE_err, un_rt, un_nx, wp_itZip, zip_tt, zip_ll, wp_sumL, wp_okN, wp_excN, wp_var, getE_zero, getE_succ, onO_some, wp_K, wp_nil, wp_cons, wp_tup, wp_lst, wp_lstC, wp_c1, wp_c2, wp_call, wp_fn, wp_toT, asB_bl, wp_cif, wp_tand, wp_tor, wp_tnot, wp_isN, wp_notN, wp_and, wp_or, wp_not, wp_chain, wp_isa, wp_slice, wp_noP, wp_P, asI_int, wp_rev, wp_dic0, wp_app, ws_nxN, ws_rtN, fp_rt, fp_nx, fp_ex, seq_nx, seq_rt, seq_bk, seq_ct, seq_ex, ws_seq, ws_nil, ws_break, ws_cont, ws_retN, ws_expr, ws_ret, ws_set, ws_if, ws_setI, ws_asg, ws_par, ws_par3, as2_two, as3_three, wp_addI, wp_subI, wp_mulI, wp_divI, wp_modI, wp_powI, wp_negI, wp_gtI, wp_ltI, wp_leI, wp_geI, wp_addT, wp_addL, wp_lenT, wp_lenL, wp_intI, wp_intB, wp_absI, wp_tupL, wp_tupT, wp_listL, wp_listT, wp_sliceT, wp_sliceL, wp_revT, wp_revL, wp_idxT, wp_idxL, wp_eqI, wp_it, row_tup, row_lst, wp_itRg, rg_one', rg_two', wp_comp, wp_compC, ws_for, List.set_cons_zero, List.set_cons_succ, List.length_cons, List.length_nil, if_true, if_false, Bool.false_eq_true, Nat.reduceAdd]
  obtain ⟨x, hx, e⟩ := atI_in (ds := ds) h0 h1
  rw [e]
  exact end_dc hd'.low hr (lowL_iff.mp hw x hx) (q x hx c' hd')
theorem pairs3 {k1 k2 k3 : Key} {a b c : DE} {env : En} {h : List Cell} {x y z : D} (ha : a env h = .ok x h) (hb : b env h = .ok y h) (hc : c env h = .ok z h) : cDispC [(k1, a), (k2, b), (k3, c)] env h = .ok (.ref h.length) (h ++ [.dic [(k1, x), (k2, y), (k3, z)]]) := by
  unfold cDispC
  simp only [cPairs, ha, hb, hc]
theorem cut_ints {ns : List Int} {k : Int} (h0 : 0 ≤ k) : DL.cutD (ns.map D.int) none (some k) = (ns.take k.toNat).map .int := by rw [cut_to h0, List.map_take]
theorem deck_wp {ns : List Int} {Q E : D → List Cell → Prop} (hn : ns.length ≤ 63) (q : ∀ c : Cell, DkI 0 c → Q (.ref 0) [c]) : wp (F__law_deck [.lst (ns.map .int)] []) Q E := by
  refine wp_fnC ?_
  rw [e__law_deck]
  unfold b__law_deck st__law_deck_0 st__law_deck_1 st__law_deck_2
  simp only [wp_sum2L, wp_sum2T, wp_itZipM, zip_tl, wp_fld, wp_meth, wp_prop, wp_make, ws_fldS, own_obj, wp_eqTI0, wp_eqLI0, wp_eqTT0, wp_eqLT0, wp_eqTI, wp_eqLI, wp_eqTT, wp_eqLT, wp_inI, wp_inIL, wp_inT, wp_ltT, wp_srtTI, wp_srtLI, wp_srtTR, wp_srtLR, wp_srtSet, seq_T, seq_L, wp_min2, wp_max2, ws_while, wp_itEn, row_en, ws_augI, wp_mulLst, wp_tupRg1, wp_tupRg2, wp_lstRg1, wp_lstRg2, ws_raise, ws_raise0, ws_try, ct_nx, ct_rt, ct_bk, ct_ct, ct_ex, wp_errF, wp_errIs, asE_err, un_rt, un_nx, wp_itZip, zip_tt, zip_ll, wp_sumL, wp_okN, wp_excN, wp_var, getE_zero, getE_succ, onO_some, wp_K, wp_nil, wp_cons, wp_tup, wp_lst, wp_lstC, wp_c1, wp_c2, wp_call, wp_fn, wp_toT, asB_bl, wp_cif, wp_tand, wp_tor, wp_tnot, wp_isN, wp_notN, wp_and, wp_or, wp_not, wp_chain, wp_isa, wp_slice, wp_noP, wp_P, asI_int, wp_rev, wp_dic0, wp_app, ws_nxN, ws_rtN, fp_rt, fp_nx, fp_ex, seq_nx, seq_rt, seq_bk, seq_ct, seq_ex, ws_seq, ws_nil, ws_break, ws_cont, ws_retN, ws_expr, ws_ret, ws_set, ws_if, ws_setI, ws_asg, ws_par, ws_par3, as2_two, as3_three, wp_addI, wp_subI, wp_mulI, wp_divI, wp_modI, wp_powI, wp_negI, wp_gtI, wp_ltI, wp_leI, wp_geI, wp_addT, wp_addL, wp_lenT, wp_lenL, wp_intI, wp_intB, wp_absI, wp_tupL, wp_tupT, wp_listL, wp_listT, wp_sliceT, wp_sliceL, wp_revT, wp_revL, wp_idxT, wp_idxL, wp_eqI, wp_it, row_tup, row_lst, wp_itRg, rg_one', rg_two', wp_comp, wp_compC, ws_for, List.set_cons_zero, List.set_cons_succ, List.length_cons, List.length_nil, if_true, if_false, Bool.false_eq_true, Nat.reduceAdd, cut_ints (show (0 : Int) ≤ 58 by decide)]
  refine for_inv (I := fun env h => h = [] ∧ ∃ (v2 : Option D) (g : Int), env = [some (.lst (ns.map .int)), some (.int g), v2] ∧ 0 ≤ g) ⟨rfl, _, _, rfl, by decide⟩ ?_ ?_
  · rintro x hx env h ⟨rfl, v2, g, rfl, hg⟩
    obtain ⟨z, _, rfl⟩ := List.mem_map.mp hx
    refine ⟨_, gN_eq, ?_⟩
    unfold lb__law_deck_0
    simp only [wp_sum2L, wp_sum2T, wp_itZipM, zip_tl, wp_fld, wp_meth, wp_prop, wp_make, ws_fldS, own_obj, wp_eqTI0, wp_eqLI0, wp_eqTT0, wp_eqLT0, wp_eqTI, wp_eqLI, wp_eqTT, wp_eqLT, wp_inI, wp_inIL, wp_inT, wp_ltT, wp_srtTI, wp_srtLI, wp_srtTR, wp_srtLR, wp_srtSet, seq_T, seq_L, wp_min2, wp_max2, ws_while, wp_itEn, row_en, ws_augI, wp_mulLst, wp_tupRg1, wp_tupRg2, wp_lstRg1, wp_lstRg2, ws_raise, ws_raise0, ws_try, ct_nx, ct_rt, ct_bk, ct_ct, ct_ex, wp_errF, wp_errIs, asE_err, un_rt, un_nx, wp_itZip, zip_tt, zip_ll, wp_sumL, wp_okN, wp_excN, wp_var, getE_zero, getE_succ, onO_some, wp_K, wp_nil, wp_cons, wp_tup, wp_lst, wp_lstC, wp_c1, wp_c2, wp_call, wp_fn, wp_toT, asB_bl, wp_cif, wp_tand, wp_tor, wp_tnot, wp_isN, wp_notN, wp_and, wp_or, wp_not, wp_chain, wp_isa, wp_slice, wp_noP, wp_P, asI_int, wp_rev, wp_dic0, wp_app, ws_nxN, ws_rtN, fp_rt, fp_nx, fp_ex, seq_nx, seq_rt, seq_bk, seq_ct, seq_ex, ws_seq, ws_nil, ws_break, ws_cont, ws_retN, ws_expr, ws_ret, ws_set, ws_if, ws_setI, ws_asg, ws_par, ws_par3, as2_two, as3_three, wp_addI, wp_subI, wp_mulI, wp_divI, wp_modI, wp_powI, wp_negI, wp_gtI, wp_ltI, wp_leI, wp_geI, wp_addT, wp_addL, wp_lenT, wp_lenL, wp_intI, wp_intB, wp_absI, wp_tupL, wp_tupT, wp_listL, wp_listT, wp_sliceT, wp_sliceL, wp_revT, wp_revL, wp_idxT, wp_idxL, wp_eqI, wp_it, row_tup, row_lst, wp_itRg, rg_one', rg_two', wp_comp, wp_compC, ws_for, List.set_cons_zero, List.set_cons_succ, List.length_cons, List.length_nil, if_true, if_false, Bool.false_eq_true, Nat.reduceAdd]
    refine ⟨⟨by decide, by decide, by decide⟩, ?_⟩
    by_cases hz : z < 0
    · rw [if_pos hz]
      split
      · exact ⟨mulR (by decide) (by decide), trivial, _, _, rfl, by omega⟩
      · exact ⟨trivial, _, _, rfl, hg⟩
    · rw [if_neg hz]
      split
      · exact ⟨mulR (by decide) (by decide), trivial, _, _, rfl, by omega⟩
      · exact ⟨trivial, _, _, rfl, hg⟩
  · rintro env h ⟨rfl, v2, g, rfl, hg⟩
    unfold ks__law_deck_0
    have ht : (ns.take (Int.toNat 58)).length ≤ 58 := by rw [List.length_take]; omega
    simp only [wp_sum2L, wp_sum2T, wp_itZipM, zip_tl, wp_fld, wp_meth, wp_prop, wp_make, ws_fldS, own_obj, wp_eqTI0, wp_eqLI0, wp_eqTT0, wp_eqLT0, wp_eqTI, wp_eqLI, wp_eqTT, wp_eqLT, wp_inI, wp_inIL, wp_inT, wp_ltT, wp_srtTI, wp_srtLI, wp_srtTR, wp_srtLR, wp_srtSet, seq_T, seq_L, wp_min2, wp_max2, ws_while, wp_itEn, row_en, ws_augI, wp_mulLst, wp_tupRg1, wp_tupRg2, wp_lstRg1, wp_lstRg2, ws_raise, ws_raise0, ws_try, ct_nx, ct_rt, ct_bk, ct_ct, ct_ex, wp_errF, wp_errIs, asE_err, un_rt, un_nx, wp_itZip, zip_tt, zip_ll, wp_sumL, wp_okN, wp_excN, wp_var, getE_zero, getE_succ, onO_some, wp_K, wp_nil, wp_cons, wp_tup, wp_lst, wp_lstC, wp_c1, wp_c2, wp_call, wp_fn, wp_toT, asB_bl, wp_cif, wp_tand, wp_tor, wp_tnot, wp_isN, wp_notN, wp_and, wp_or, wp_not, wp_chain, wp_isa, wp_slice, wp_noP, wp_P, asI_int, wp_rev, wp_dic0, wp_app, ws_nxN, ws_rtN, fp_rt, fp_nx, fp_ex, seq_nx, seq_rt, seq_bk, seq_ct, seq_ex, ws_seq, ws_nil, ws_break, ws_cont, ws_retN, ws_expr, ws_ret, ws_set, ws_if, ws_setI, ws_asg, ws_par, ws_par3, as2_two, as3_three, wp_addI, wp_subI, wp_mulI, wp_divI, wp_modI, wp_powI, wp_negI, wp_gtI, wp_ltI, wp_leI, wp_geI, wp_addT, wp_addL, wp_lenT, wp_lenL, wp_intI, wp_intB, wp_absI, wp_tupL, wp_tupT, wp_listL, wp_listT, wp_sliceT, wp_sliceL, wp_revT, wp_revL, wp_idxT, wp_idxL, wp_eqI, wp_it, row_tup, row_lst, wp_itRg, rg_one', rg_two', wp_comp, wp_compC, ws_for, List.set_cons_zero, List.set_cons_succ, List.length_cons, List.length_nil, if_true, if_false, Bool.false_eq_true, Nat.reduceAdd]
    rw [pairs3 (x := .lst ((ns.take (Int.toNat 58) ++ [(ns.length : Int) + 19]).map .int)) (y := .int 0) (z := .int g) (wp_eq (by
      simp only [wp_sum2L, wp_sum2T, wp_itZipM, zip_tl, wp_fld, wp_meth, wp_prop, wp_make, ws_fldS, own_obj, wp_eqTI0, wp_eqLI0, wp_eqTT0, wp_eqLT0, wp_eqTI, wp_eqLI, wp_eqTT, wp_eqLT, wp_inI, wp_inIL, wp_inT, wp_ltT, wp_srtTI, wp_srtLI, wp_srtTR, wp_srtLR, wp_srtSet, seq_T, seq_L, wp_min2, wp_max2, ws_while, wp_itEn, row_en, ws_augI, wp_mulLst, wp_tupRg1, wp_tupRg2, wp_lstRg1, wp_lstRg2, ws_raise, ws_raise0, ws_try, ct_nx, ct_rt, ct_bk, ct_ct, ct_ex, wp_errF, wp_errIs, asE_err, un_rt, un_nx, wp_itZip, zip_tt, zip_ll, wp_sumL, wp_okN, wp_excN, wp_var, getE_zero, getE_succ, onO_some, wp_K, wp_nil, wp_cons, wp_tup, wp_lst, wp_lstC, wp_c1, wp_c2, wp_call, wp_fn, wp_toT, asB_bl, wp_cif, wp_tand, wp_tor, wp_tnot, wp_isN, wp_notN, wp_and, wp_or, wp_not, wp_chain, wp_isa, wp_slice, wp_noP, wp_P, asI_int, wp_rev, wp_dic0, wp_app, ws_nxN, ws_rtN, fp_rt, fp_nx, fp_ex, seq_nx, seq_rt, seq_bk, seq_ct, seq_ex, ws_seq, ws_nil, ws_break, ws_cont, ws_retN, ws_expr, ws_ret, ws_set, ws_if, ws_setI, ws_asg, ws_par, ws_par3, as2_two, as3_three, wp_addI, wp_subI, wp_mulI, wp_divI, wp_modI, wp_powI, wp_negI, wp_gtI, wp_ltI, wp_leI, wp_geI, wp_addT, wp_addL, wp_lenT, wp_lenL, wp_intI, wp_intB, wp_absI, wp_tupL, wp_tupT, wp_listL, wp_listT, wp_sliceT, wp_sliceL, wp_revT, wp_revL, wp_idxT, wp_idxL, wp_eqI, wp_it, row_tup, row_lst, wp_itRg, rg_one', rg_two', wp_comp, wp_compC, ws_for, List.set_cons_zero, List.set_cons_succ, List.length_cons, List.length_nil, if_true, if_false, Bool.false_eq_true, Nat.reduceAdd, cut_ints (show (0 : Int) ≤ 58 by decide), List.length_map]
      refine ⟨by rw [sizeLine_eq]; omega, by rw [sizeLine_eq]; omega, by simp, trivial⟩)) rfl (wp_eq (by simp only [wp_sum2L, wp_sum2T, wp_itZipM, zip_tl, wp_fld, wp_meth, wp_prop, wp_make, ws_fldS, own_obj, wp_eqTI0, wp_eqLI0, wp_eqTT0, wp_eqLT0, wp_eqTI, wp_eqLI, wp_eqTT, wp_eqLT, wp_inI, wp_inIL, wp_inT, wp_ltT, wp_srtTI, wp_srtLI, wp_srtTR, wp_srtLR, wp_srtSet, seq_T, seq_L, wp_min2, wp_max2, ws_while, wp_itEn, row_en, ws_augI, wp_mulLst, wp_tupRg1, wp_tupRg2, wp_lstRg1, wp_lstRg2, ws_raise, ws_raise0, ws_try, ct_nx, ct_rt, ct_bk, ct_ct, ct_ex, wp_errF, wp_errIs, asE_err, un_rt, un_nx, wp_itZip, zip_tt, zip_ll, wp_sumL, wp_okN, wp_excN, wp_var, getE_zero, getE_succ, onO_some, wp_K, wp_nil, wp_cons, wp_tup, wp_lst, wp_lstC, wp_c1, wp_c2, wp_call, wp_fn, wp_toT, asB_bl, wp_cif, wp_tand, wp_tor, wp_tnot, wp_isN, wp_notN, wp_and, wp_or, wp_not, wp_chain, wp_isa, wp_slice, wp_noP, wp_P, asI_int, wp_rev, wp_dic0, wp_app, ws_nxN, ws_rtN, fp_rt, fp_nx, fp_ex, seq_nx, seq_rt, seq_bk, seq_ct, seq_ex, ws_seq, ws_nil, ws_break, ws_cont, ws_retN, ws_expr, ws_ret, ws_set, ws_if, ws_setI, ws_asg, ws_par, ws_par3, as2_two, as3_three, wp_addI, wp_subI, wp_mulI, wp_divI, wp_modI, wp_powI, wp_negI, wp_gtI, wp_ltI, wp_leI, wp_geI, wp_addT, wp_addL, wp_lenT, wp_lenL, wp_intI, wp_intB, wp_absI, wp_tupL, wp_tupT, wp_listL, wp_listT, wp_sliceT, wp_sliceL, wp_revT, wp_revL, wp_idxT, wp_idxL, wp_eqI, wp_it, row_tup, row_lst, wp_itRg, rg_one', rg_two', wp_comp, wp_compC, ws_for, List.set_cons_zero, List.set_cons_succ, List.length_cons, List.length_nil, if_true, if_false, Bool.false_eq_true, Nat.reduceAdd]; exact ⟨trivial, trivial⟩))]
    simp only [wp_sum2L, wp_sum2T, wp_itZipM, zip_tl, wp_fld, wp_meth, wp_prop, wp_make, ws_fldS, own_obj, wp_eqTI0, wp_eqLI0, wp_eqTT0, wp_eqLT0, wp_eqTI, wp_eqLI, wp_eqTT, wp_eqLT, wp_inI, wp_inIL, wp_inT, wp_ltT, wp_srtTI, wp_srtLI, wp_srtTR, wp_srtLR, wp_srtSet, seq_T, seq_L, wp_min2, wp_max2, ws_while, wp_itEn, row_en, ws_augI, wp_mulLst, wp_tupRg1, wp_tupRg2, wp_lstRg1, wp_lstRg2, ws_raise, ws_raise0, ws_try, ct_nx, ct_rt, ct_bk, ct_ct, ct_ex, wp_errF, wp_errIs, asE_err, un_rt, un_nx, wp_itZip, zip_tt, zip_ll, wp_sumL, wp_okN, wp_excN, wp_var, getE_zero, getE_succ, onO_some, wp_K, wp_nil, wp_cons, wp_tup, wp_lst, wp_lstC, wp_c1, wp_c2, wp_call, wp_fn, wp_toT, asB_bl, wp_cif, wp_tand, wp_tor, wp_tnot, wp_isN, wp_notN, wp_and, wp_or, wp_not, wp_chain, wp_isa, wp_slice, wp_noP, wp_P, asI_int, wp_rev, wp_dic0, wp_app, ws_nxN, ws_rtN, fp_rt, fp_nx, fp_ex, seq_nx, seq_rt, seq_bk, seq_ct, seq_ex, ws_seq, ws_nil, ws_break, ws_cont, ws_retN, ws_expr, ws_ret, ws_set, ws_if, ws_setI, ws_asg, ws_par, ws_par3, as2_two, as3_three, wp_addI, wp_subI, wp_mulI, wp_divI, wp_modI, wp_powI, wp_negI, wp_gtI, wp_ltI, wp_leI, wp_geI, wp_addT, wp_addL, wp_lenT, wp_lenL, wp_intI, wp_intB, wp_absI, wp_tupL, wp_tupT, wp_listL, wp_listT, wp_sliceT, wp_sliceL, wp_revT, wp_revL, wp_idxT, wp_idxL, wp_eqI, wp_it, row_tup, row_lst, wp_itRg, rg_one', rg_two', wp_comp, wp_compC, ws_for, List.set_cons_zero, List.set_cons_succ, List.length_cons, List.length_nil, if_true, if_false, Bool.false_eq_true, Nat.reduceAdd, List.nil_append]
    have d' : DkI 0 (dkK (ns.take (Int.toNat 58) ++ [(ns.length : Int) + 19]) 0 g) := ⟨_, _, _, rfl, by simp, by simp only [List.length_append, List.length_cons, List.length_nil]; omega, by decide, by decide, hg⟩
    exact ⟨Nat.le_refl _, Nat.zero_le _, d'.low, FlatH.nil, q _ d'⟩

theorem GrpOk.nil {n : Int} : GrpOk n [] := ⟨List.Pairwise.nil, fun _ h => by cases h⟩
theorem GrpOk.mono {n m : Int} {x : List Int} (h : GrpOk n x) (hm : n ≤ m) : GrpOk m x := ⟨h.1, fun i hi => ⟨(h.2 i hi).1, by have := (h.2 i hi).2; omega⟩⟩
/-- what a drawn rule keeps -/
structure StOk (n : Nat) (gs : List (List Int)) : Prop where
  h1 : 1 ≤ n
  h6 : n ≤ 6
  ne : gs ≠ []
  len : gs.length ≤ 63
  grp : ∀ g ∈ gs, GrpOk n g ∧ g ≠ []
  srt : gs.Pairwise (· < ·)
  anti : ∀ a ∈ gs, ∀ b ∈ gs, a ≠ b → sub a b = false
/-- what a drawn dealing keeps -/
structure DlOk (P n m : Nat) (ts : List Int) (rows : List D) : Prop where
  hp : (P : Int) ∈ prs
  n1 : 1 ≤ n
  n3 : n ≤ 3
  p5 : P ≤ 5
  t : ROk (P : Int) n ts
  nz : ∃ x ∈ ts, x ≠ 0
  hr : ∀ r ∈ rows, TRow (P : Int) n 20 r
  len : rows.length = m
def CsOk (P : Int) (rows : List D) (g : List Int) (css : List (List Int)) : Prop := css.length = g.length ∧ ∀ k, k < g.length → (css.getD k []).length = lenD (rows.getD (g.getD k 0).toNat .non) ∧ ∀ y ∈ css.getD k [], 0 ≤ y ∧ y < P
theorem zip_at {α β : Type} {a : List α} {b : List β} {q : α × β} (h : q ∈ List.zip a b) : ∃ k, ∃ h1 : k < a.length, ∃ h2 : k < b.length, q = (a[k], b[k]) := by
  obtain ⟨k, hk, e⟩ := List.mem_iff_getElem.mp h
  rw [List.length_zip] at hk
  refine ⟨k, by omega, by omega, ?_⟩
  rw [← e, List.getElem_zip]
theorem CsOk.zip {P : Int} {rows : List D} {g : List Int} {css : List (List Int)} (h : CsOk P rows g css) : ∀ q ∈ List.zip g css, q.2.length = lenD (rows.getD q.1.toNat .non) ∧ ∀ y ∈ q.2, 0 ≤ y ∧ y < P := fun q hq => by
  obtain ⟨k, h1, h2, rfl⟩ := zip_at hq
  have := h.2 k h1
  simpa [List.getD_eq_getElem?_getD, h1, h2] using this
/-- what plain needs of a rule -/
structure RuOk (n : Nat) (gs : List (List Int)) : Prop where
  st : StOk n gs
  l20 : gs.length ≤ 20
  w45 : (gs.map fun g => g.length - 1).sum ≤ 45
structure DgOk (P n m : Nat) (ts : List Int) (rows : List D) : Prop where
  hp : (P : Int) ∈ prs
  n1 : 1 ≤ n
  n46 : n ≤ 46
  t : ROk (P : Int) n ts
  hr : ∀ r ∈ rows, TRow (P : Int) n 20 r
  len : rows.length = m
section
variable {P N m : Nat} {ts : List Int} {rows : List D}
end
section
variable {P N m : Nat} {ts : List Int} {rows : List D}
end
section
variable {P N m : Nat} {ts : List Int} {rows : List D}
end
section
variable {P N m : Nat} {ts : List Int} {rows : List D}
end
section
variable {P N m : Nat} {ts : List Int} {rows : List D}
end
section
variable {P N m : Nat} {ts : List Int} {rows : List D}
end
section
variable {P N m : Nat} {ts : List Int} {rows : List D}
end
section
variable {P N m : Nat} {ts : List Int} {rows : List D}
end
end G

-- DS5
-- DS6x
namespace G
open PySem PySem.Spec PyProof.Rows L2 DL
theorem disp_odd {env : En} {h : List Cell} {Q E : D → List Cell → Prop} : wp (cDisp ks__law_odd_0 env h) Q E = Q (.dic [(.inr "a", .int 1)]) h := by
  show wp (R.ok (D.dic [(.inr "a", .int 1)]) h) Q E = _
  exact wp_okN
theorem oddC_wp {b : Int} {c : Cell} {r : List Cell} (hd : DkI b c) (hb : b < 900000000000) (hr : FlatH r) {Q E : D → List Cell → Prop} (q : ∀ (x : D) (c' : Cell), Fit 400 5 x → DkI (b + 1) c' → Q x (c' :: r)) : wp (F__law_odd [.ref 0] (c :: r)) Q E := by
  refine wp_fnD ?_
  rw [e__law_odd]
  unfold b__law_odd st__law_odd_0 st__law_odd_1 st__law_odd_2
  simp only [wp_sum2L, wp_sum2T, wp_itZipM, zip_tl, wp_fld, wp_meth, wp_prop, wp_make, ws_fldS, own_obj, wp_eqTI0, wp_eqLI0, wp_eqTT0, wp_eqLT0, wp_eqTI, wp_eqLI, wp_eqTT, wp_eqLT, wp_inI, wp_inIL, wp_inT, wp_ltT, wp_srtTI, wp_srtLI, wp_srtTR, wp_srtLR, wp_srtSet, seq_T, seq_L, wp_min2, wp_max2, ws_while, wp_itEn, row_en, ws_augI, wp_mulLst, wp_tupRg1, wp_tupRg2, wp_lstRg1, wp_lstRg2, ws_raise, ws_raise0, ws_try, ct_nx, ct_rt, ct_bk, ct_ct, ct_ex, wp_errF, wp_errIs, asE_err, un_rt, un_nx, wp_itZip, zip_tt, zip_ll, wp_sumL, wp_okN, wp_excN, wp_var, getE_zero, getE_succ, onO_some, wp_K, wp_nil, wp_cons, wp_tup, wp_lst, wp_lstC, wp_c1, wp_c2, wp_call, wp_fn, wp_toT, asB_bl, wp_cif, wp_tand, wp_tor, wp_tnot, wp_isN, wp_notN, wp_and, wp_or, wp_not, wp_chain, wp_isa, wp_slice, wp_noP, wp_P, asI_int, wp_rev, wp_dic0, wp_app, ws_nxN, ws_rtN, fp_rt, fp_nx, fp_ex, seq_nx, seq_rt, seq_bk, seq_ct, seq_ex, ws_seq, ws_nil, ws_break, ws_cont, ws_retN, ws_expr, ws_ret, ws_set, ws_if, ws_setI, ws_asg, ws_par, ws_par3, as2_two, as3_three, wp_addI, wp_subI, wp_mulI, wp_divI, wp_modI, wp_powI, wp_negI, wp_gtI, wp_ltI, wp_leI, wp_geI, wp_addT, wp_addL, wp_lenT, wp_lenL, wp_intI, wp_intB, wp_absI, wp_tupL, wp_tupT, wp_listL, wp_listT, wp_sliceT, wp_sliceL, wp_revT, wp_revL, wp_idxT, wp_idxL, wp_eqI, wp_it, row_tup, row_lst, wp_itRg, rg_one', rg_two', wp_comp, wp_compC, ws_for, List.set_cons_zero, List.set_cons_succ, List.length_cons, List.length_nil, if_true, if_false, Bool.false_eq_true, Nat.reduceAdd, true_and, disp_odd]
  repeat (first | refine ⟨by decide, ?_⟩ | refine ⟨⟨by decide, by decide, by decide⟩, ?_⟩ | refine ⟨by rw [sizeLine_eq]; decide, ?_⟩)
  exact one_wp hd (by omega) (by simp) (by decide) (by decide +kernel) hr fun x hx c' hd' => by
    have f : Fit 400 5 x := all_fit (by decide +kernel) x hx
    exact end_dc hd'.low hr f.low (q x c' f hd')
end G

-- DS5
-- DS6x
namespace G
open PySem PySem.Spec PyProof.Rows L2 DL
/-! ### errors as values: rules -/
section
variable {Q E : D → List Cell → Prop} {env : En} {h : List Cell}
theorem wp_mkX {c : Nat} {fs : List Str} {ds : DEs} : wp (cMkX c fs ds env h) Q E = wp (ds env h) (fun xs h1 => (xs.length = fs.length ∧ xs.length ≤ 1000) ∧ Q (.xo c (fs.zip xs).reverse) h1) E := by
  unfold cMkX
  rw [wp_bind]
  congr 1
  funext x h1
  rw [wp_if]
  split
  · rename_i hz; simp only [wp]; exact propext ⟨fun y => ⟨hz, y⟩, fun y => y.2⟩
  · rename_i hz; simp only [wp]; exact (eq_false fun y => hz y.1).symm
theorem wp_mkX0 {c : Nat} : wp (cMkX0 c env h) Q E = Q (.xo c []) h := rfl
def asX (d : D) (p : Nat → List (Str × D) → Prop) : Prop := match d with
  | .xo c fs => p c fs
  | _ => False
theorem asX_xo {c : Nat} {fs : List (Str × D)} {p : Nat → List (Str × D) → Prop} : asX (.xo c fs) p = p c fs := rfl
theorem wp_xoF {f : Str} {d : DE} : wp (cXoF f d env h) Q E = wp (d env h) (fun x h1 => asX x fun c fs => onO (fs.lookup f) fun v => 1000 ≤ c ∧ Q v h1) E := by
  unfold cXoF
  rw [wp_bind]
  congr 1
  funext x h1
  cases x with
  | xo c fs =>
    show wp (match fs.lookup f with
      | some v => if c < 1000 then R.bad else .ok v h1
      | none => .bad) Q E = onO (fs.lookup f) fun v => 1000 ≤ c ∧ Q v h1
    cases fs.lookup f with
    | none => rfl
    | some v =>
      show wp (if c < 1000 then R.bad else .ok v h1) Q E = (1000 ≤ c ∧ Q v h1)
      rw [wp_if]
      split
      · rename_i z; exact (eq_false fun y => absurd y.1 (by omega)).symm
      · rename_i z; exact propext ⟨fun y => ⟨by omega, y⟩, fun y => y.2⟩
  | _ => rfl
theorem wp_xoIs {ks : List Nat} {d : DE} : wp (cXoIs ks d env h) Q E = wp (d env h) (fun x h1 => asX x fun c _ => 1000 ≤ c ∧ Q (.bl (ks.contains c)) h1) E := by
  unfold cXoIs
  rw [wp_bind]
  congr 1
  funext x h1
  cases x with
  | xo c fs =>
    show wp (if c < 1000 then R.bad else .ok (.bl (ks.contains c)) h1) Q E = (1000 ≤ c ∧ Q (.bl (ks.contains c)) h1)
    rw [wp_if]
    split
    · rename_i z; exact (eq_false fun y => absurd y.1 (by omega)).symm
    · rename_i z; exact propext ⟨fun y => ⟨by omega, y⟩, fun y => y.2⟩
  | _ => rfl
end
/-! ### the errors of the law -/
def errs (x y : D) : List D := [.xo 1008 [("draws", x)], .xo 1001 [("group", x)], .xo 1009 [("names", x)], .xo 1011 [("prime", x)], .xo 1003 [("word", y), ("number", x)], .xo 1002 [], .xo 1012 [("number", x)], .xo 1013 [], .xo 1004 [], .xo 1014 [], .xo 1007 [("person", x)], .xo 1017 [("other", y), ("one", x)], .xo 1010 [], .xo 1015 [("limit", x)], .xo 1016 [], .xo 1005 [("number", x)], .xo 1006 [("person", x)]]
theorem errors_wp {x y : D} {h : List Cell} (hx : low 0 x = true) (hy : low 0 y = true) (hf : FlatH h) : F__law_errors [x, y] h = .ok (.lst (errs x y)) h := by
  refine wp_eq (wp_fnD ?_)
  rw [e__law_errors]
  unfold b__law_errors st__law_errors_0 st__law_errors_1 st__law_errors_2
  simp only [wp_sum2L, wp_sum2T, wp_itZipM, zip_tl, wp_fld, wp_meth, wp_prop, wp_make, ws_fldS, own_obj, wp_eqTI0, wp_eqLI0, wp_eqTT0, wp_eqLT0, wp_eqTI, wp_eqLI, wp_eqTT, wp_eqLT, wp_inI, wp_inIL, wp_inT, wp_ltT, wp_srtTI, wp_srtLI, wp_srtTR, wp_srtLR, wp_srtSet, seq_T, seq_L, wp_min2, wp_max2, ws_while, wp_itEn, row_en, ws_augI, wp_mulLst, wp_tupRg1, wp_tupRg2, wp_lstRg1, wp_lstRg2, ws_raise, ws_raise0, ws_try, ct_nx, ct_rt, ct_bk, ct_ct, ct_ex, wp_errF, wp_errIs, asE_err, un_rt, un_nx, wp_itZip, zip_tt, zip_ll, wp_sumL, wp_okN, wp_excN, wp_var, getE_zero, getE_succ, onO_some, wp_K, wp_nil, wp_cons, wp_tup, wp_lst, wp_lstC, wp_c1, wp_c2, wp_call, wp_fn, wp_toT, asB_bl, wp_cif, wp_tand, wp_tor, wp_tnot, wp_isN, wp_notN, wp_and, wp_or, wp_not, wp_chain, wp_isa, wp_slice, wp_noP, wp_P, asI_int, wp_rev, wp_dic0, wp_app, ws_nxN, ws_rtN, fp_rt, fp_nx, fp_ex, seq_nx, seq_rt, seq_bk, seq_ct, seq_ex, ws_seq, ws_nil, ws_break, ws_cont, ws_retN, ws_expr, ws_ret, ws_set, ws_if, ws_setI, ws_asg, ws_par, ws_par3, as2_two, as3_three, wp_addI, wp_subI, wp_mulI, wp_divI, wp_modI, wp_powI, wp_negI, wp_gtI, wp_ltI, wp_leI, wp_geI, wp_addT, wp_addL, wp_lenT, wp_lenL, wp_intI, wp_intB, wp_absI, wp_tupL, wp_tupT, wp_listL, wp_listT, wp_sliceT, wp_sliceL, wp_revT, wp_revL, wp_idxT, wp_idxL, wp_eqI, wp_it, row_tup, row_lst, wp_itRg, rg_one', rg_two', wp_comp, wp_compC, ws_for, List.set_cons_zero, List.set_cons_succ, List.length_cons, List.length_nil, if_true, if_false, Bool.false_eq_true, Nat.reduceAdd, wp_mkX, wp_mkX0, List.zip_cons_cons, List.zip_nil_right, List.zip_nil_left, List.reverse_cons, List.reverse_nil, List.nil_append, List.cons_append]
  repeat (first | refine ⟨⟨True.intro, by decide⟩, ?_⟩ | refine ⟨by rw [sizeLine_eq]; decide, ?_⟩)
  refine end_same hf ?_ ?_
  · simp [low, lowL, lowF, hx, hy]
  · exact ⟨rfl, rfl⟩
def lists : List (List Nat) := [[1008], [1001], [1009], [1011], [1003], [1002], [1012], [1013], [1004], [1014], [1007], [1017], [1010], [1015], [1016], [1005], [1006], [1000, 1008, 1001, 1009, 1010, 1011, 1003, 1002, 1012, 1013, 1004, 1014, 1007, 1015, 1016, 1017], [1000, 1008, 1001, 1009, 1010, 1011, 1003, 1002, 1012, 1013, 1004, 1014, 1007, 1015, 1016, 1017], [1005, 1006], [], []]
def srt (c : Nat) : List Bool := lists.map fun l => l.contains c
theorem sorts_wp {c : Nat} {fs : List (Str × D)} {h : List Cell} (hc : 1000 ≤ c) (hf : FlatH h) : F__law_sorts [.xo c fs] h = .ok (.lst ((srt c).map .bl)) h := by
  refine wp_eq (wp_fnD ?_)
  rw [e__law_sorts]
  unfold b__law_sorts st__law_sorts_0 st__law_sorts_1 st__law_sorts_2 st__law_sorts_3 st__law_sorts_4 st__law_sorts_5 st__law_sorts_6 st__law_sorts_7
  simp only [wp_sum2L, wp_sum2T, wp_itZipM, zip_tl, wp_fld, wp_meth, wp_prop, wp_make, ws_fldS, own_obj, wp_eqTI0, wp_eqLI0, wp_eqTT0, wp_eqLT0, wp_eqTI, wp_eqLI, wp_eqTT, wp_eqLT, wp_inI, wp_inIL, wp_inT, wp_ltT, wp_srtTI, wp_srtLI, wp_srtTR, wp_srtLR, wp_srtSet, seq_T, seq_L, wp_min2, wp_max2, ws_while, wp_itEn, row_en, ws_augI, wp_mulLst, wp_tupRg1, wp_tupRg2, wp_lstRg1, wp_lstRg2, ws_raise, ws_raise0, ws_try, ct_nx, ct_rt, ct_bk, ct_ct, ct_ex, wp_errF, wp_errIs, asE_err, un_rt, un_nx, wp_itZip, zip_tt, zip_ll, wp_sumL, wp_okN, wp_excN, wp_var, getE_zero, getE_succ, onO_some, wp_K, wp_nil, wp_cons, wp_tup, wp_lst, wp_lstC, wp_c1, wp_c2, wp_call, wp_fn, wp_toT, asB_bl, wp_cif, wp_tand, wp_tor, wp_tnot, wp_isN, wp_notN, wp_and, wp_or, wp_not, wp_chain, wp_isa, wp_slice, wp_noP, wp_P, asI_int, wp_rev, wp_dic0, wp_app, ws_nxN, ws_rtN, fp_rt, fp_nx, fp_ex, seq_nx, seq_rt, seq_bk, seq_ct, seq_ex, ws_seq, ws_nil, ws_break, ws_cont, ws_retN, ws_expr, ws_ret, ws_set, ws_if, ws_setI, ws_asg, ws_par, ws_par3, as2_two, as3_three, wp_addI, wp_subI, wp_mulI, wp_divI, wp_modI, wp_powI, wp_negI, wp_gtI, wp_ltI, wp_leI, wp_geI, wp_addT, wp_addL, wp_lenT, wp_lenL, wp_intI, wp_intB, wp_absI, wp_tupL, wp_tupT, wp_listL, wp_listT, wp_sliceT, wp_sliceL, wp_revT, wp_revL, wp_idxT, wp_idxL, wp_eqI, wp_it, row_tup, row_lst, wp_itRg, rg_one', rg_two', wp_comp, wp_compC, ws_for, List.set_cons_zero, List.set_cons_succ, List.length_cons, List.length_nil, if_true, if_false, Bool.false_eq_true, Nat.reduceAdd, wp_xoIs, asX_xo, List.cons_append, List.nil_append]
  repeat (first | refine ⟨hc, ?_⟩ | refine ⟨by rw [sizeLine_eq]; decide, ?_⟩)
  exact end_same hf rfl ⟨rfl, rfl⟩
def codes : List Nat := [1008, 1001, 1009, 1011, 1003, 1002, 1012, 1013, 1004, 1014, 1007, 1017, 1010, 1015, 1016, 1005, 1006]
def dueB (k : Nat) : List Bool := (List.range 17).map (fun i => decide (i = k)) ++ [decide (k < 15), decide (k < 15), !decide (k < 15), false, false]
theorem err_at {x y : D} {k : Nat} {e : D} (h : (errs x y)[k]? = some e) : k < 17 ∧ ∃ fs, e = .xo (codes.getD k 0) fs := by
  have hk : k < 17 := (List.getElem?_eq_some_iff.mp h).1
  refine ⟨hk, ?_⟩
  match k, hk with
  | 0, _ | 1, _ | 2, _ | 3, _ | 4, _ | 5, _ | 6, _ | 7, _ | 8, _ | 9, _ | 10, _ | 11, _ | 12, _ | 13, _ | 14, _ | 15, _ | 16, _ => cases h; exact ⟨_, rfl⟩
theorem codes_ge : ∀ k < 17, 1000 ≤ codes.getD k 0 := by decide +kernel
end G

-- DS5
-- DS6x
namespace G
open PySem PySem.Spec PyProof.Rows L2 DL
section
variable {env : En} {h : List Cell} {a0 a1 a2 a3 a4 a5 : Option D} {rest : En} {x y : D}
theorem xo_fld {f : Str} {i : Int} {ds : List D} {c : Nat} {fs : List (Str × D)} {v : D} (ha : atI ds i = some (.xo c fs)) (hl : fs.lookup f = some v) (hc : 1000 ≤ c) : cXoF f (c2 opIdx (cVar 6) (cK (.int i))) (a0 :: a1 :: a2 :: a3 :: a4 :: a5 :: some (.lst ds) :: rest) h = .ok v h := by
  refine wp_eq ?_
  simp only [wp_xoF, wp_sum2L, wp_sum2T, wp_itZipM, zip_tl, wp_fld, wp_meth, wp_prop, wp_make, ws_fldS, own_obj, wp_eqTI0, wp_eqLI0, wp_eqTT0, wp_eqLT0, wp_eqTI, wp_eqLI, wp_eqTT, wp_eqLT, wp_inI, wp_inIL, wp_inT, wp_ltT, wp_srtTI, wp_srtLI, wp_srtTR, wp_srtLR, wp_srtSet, seq_T, seq_L, wp_min2, wp_max2, ws_while, wp_itEn, row_en, ws_augI, wp_mulLst, wp_tupRg1, wp_tupRg2, wp_lstRg1, wp_lstRg2, ws_raise, ws_raise0, ws_try, ct_nx, ct_rt, ct_bk, ct_ct, ct_ex, wp_errF, wp_errIs, asE_err, un_rt, un_nx, wp_itZip, zip_tt, zip_ll, wp_sumL, wp_okN, wp_excN, wp_var, getE_zero, getE_succ, onO_some, wp_K, wp_nil, wp_cons, wp_tup, wp_lst, wp_lstC, wp_c1, wp_c2, wp_call, wp_fn, wp_toT, asB_bl, wp_cif, wp_tand, wp_tor, wp_tnot, wp_isN, wp_notN, wp_and, wp_or, wp_not, wp_chain, wp_isa, wp_slice, wp_noP, wp_P, asI_int, wp_rev, wp_dic0, wp_app, ws_nxN, ws_rtN, fp_rt, fp_nx, fp_ex, seq_nx, seq_rt, seq_bk, seq_ct, seq_ex, ws_seq, ws_nil, ws_break, ws_cont, ws_retN, ws_expr, ws_ret, ws_set, ws_if, ws_setI, ws_asg, ws_par, ws_par3, as2_two, as3_three, wp_addI, wp_subI, wp_mulI, wp_divI, wp_modI, wp_powI, wp_negI, wp_gtI, wp_ltI, wp_leI, wp_geI, wp_addT, wp_addL, wp_lenT, wp_lenL, wp_intI, wp_intB, wp_absI, wp_tupL, wp_tupT, wp_listL, wp_listT, wp_sliceT, wp_sliceL, wp_revT, wp_revL, wp_idxT, wp_idxL, wp_eqI, wp_it, row_tup, row_lst, wp_itRg, rg_one', rg_two', wp_comp, wp_compC, ws_for, List.set_cons_zero, List.set_cons_succ, List.length_cons, List.length_nil, if_true, if_false, Bool.false_eq_true, Nat.reduceAdd, ha, asX_xo, hl]
  exact ⟨hc, trivial, trivial⟩
theorem xf0 : cXoF ("draws" : Str) (c2 opIdx (cVar 6) (cK (.int 0))) (a0 :: a1 :: a2 :: a3 :: a4 :: a5 :: some (.lst (errs x y)) :: rest) h = .ok x h := xo_fld rfl rfl (by decide)
theorem xf1 : cXoF ("group" : Str) (c2 opIdx (cVar 6) (cK (.int 1))) (a0 :: a1 :: a2 :: a3 :: a4 :: a5 :: some (.lst (errs x y)) :: rest) h = .ok x h := xo_fld rfl rfl (by decide)
theorem xf2 : cXoF ("names" : Str) (c2 opIdx (cVar 6) (cK (.int 2))) (a0 :: a1 :: a2 :: a3 :: a4 :: a5 :: some (.lst (errs x y)) :: rest) h = .ok x h := xo_fld rfl rfl (by decide)
theorem xf3 : cXoF ("prime" : Str) (c2 opIdx (cVar 6) (cK (.int 3))) (a0 :: a1 :: a2 :: a3 :: a4 :: a5 :: some (.lst (errs x y)) :: rest) h = .ok x h := xo_fld rfl rfl (by decide)
theorem xf4 : cXoF ("number" : Str) (c2 opIdx (cVar 6) (cK (.int 4))) (a0 :: a1 :: a2 :: a3 :: a4 :: a5 :: some (.lst (errs x y)) :: rest) h = .ok x h := xo_fld rfl rfl (by decide)
theorem xf5 : cXoF ("number" : Str) (c2 opIdx (cVar 6) (cK (.int 6))) (a0 :: a1 :: a2 :: a3 :: a4 :: a5 :: some (.lst (errs x y)) :: rest) h = .ok x h := xo_fld rfl rfl (by decide)
theorem xf6 : cXoF ("person" : Str) (c2 opIdx (cVar 6) (cK (.int 10))) (a0 :: a1 :: a2 :: a3 :: a4 :: a5 :: some (.lst (errs x y)) :: rest) h = .ok x h := xo_fld rfl rfl (by decide)
theorem xf7 : cXoF ("one" : Str) (c2 opIdx (cVar 6) (cK (.int 11))) (a0 :: a1 :: a2 :: a3 :: a4 :: a5 :: some (.lst (errs x y)) :: rest) h = .ok x h := xo_fld rfl rfl (by decide)
theorem xf8 : cXoF ("limit" : Str) (c2 opIdx (cVar 6) (cK (.int 13))) (a0 :: a1 :: a2 :: a3 :: a4 :: a5 :: some (.lst (errs x y)) :: rest) h = .ok x h := xo_fld rfl rfl (by decide)
theorem xf9 : cXoF ("number" : Str) (c2 opIdx (cVar 6) (cK (.int 15))) (a0 :: a1 :: a2 :: a3 :: a4 :: a5 :: some (.lst (errs x y)) :: rest) h = .ok x h := xo_fld rfl rfl (by decide)
theorem xf10 : cXoF ("person" : Str) (c2 opIdx (cVar 6) (cK (.int 16))) (a0 :: a1 :: a2 :: a3 :: a4 :: a5 :: some (.lst (errs x y)) :: rest) h = .ok x h := xo_fld rfl rfl (by decide)
theorem xf11 : cXoF ("word" : Str) (c2 opIdx (cVar 6) (cK (.int 4))) (a0 :: a1 :: a2 :: a3 :: a4 :: a5 :: some (.lst (errs x y)) :: rest) h = .ok y h := xo_fld rfl rfl (by decide)
theorem xf12 : cXoF ("other" : Str) (c2 opIdx (cVar 6) (cK (.int 11))) (a0 :: a1 :: a2 :: a3 :: a4 :: a5 :: some (.lst (errs x y)) :: rest) h = .ok y h := xo_fld rfl rfl (by decide)
end
theorem due_row : ∀ k < 17, (rgI 0 17).map (fun a => decide (a = ((k : Nat) : Int))) = (List.range 17).map (fun j => decide (j = k)) := by decide +kernel
theorem eq_due : ∀ k < 17, PyData.eqv (.list ((srt (codes.getD k 0)).map .bool)) (.list ((dueB k).map .bool)) = true := by decide +kernel
theorem toPs_bools : ∀ bs : List Bool, toPs (bs.map .bl) = some (bs.map .bool)
  | [] => rfl
  | b :: bs => by
    rw [List.map_cons, List.map_cons]
    unfold toPs
    rw [toPs_bools bs]
    rfl
theorem pd_bools (bs : List Bool) : pdOf (.lst (bs.map .bl)) = some (.list (bs.map .bool)) := by
  unfold pdOf
  rw [show (D.lst (bs.map .bl)).toP = some (.list (bs.map .bool)) from by
    show (toPs _).map PyData.list = _
    rw [toPs_bools]
    rfl]
  have h1 : ∀ bs : List Bool, PyData.plainAll (bs.map .bool) = true ∧ PyData.depthAll (bs.map .bool) = 0 := fun bs => by
    induction bs with
    | nil => exact ⟨rfl, rfl⟩
    | cons x l ih =>
      refine ⟨?_, ?_⟩
      · simp only [List.map_cons, PyData.plainAll, ih.1, Bool.and_true]; rfl
      · simp only [List.map_cons, PyData.depthAll, ih.2, PyData.depth]; rfl
  exact if_pos ⟨by simp only [PyData.plain]; exact (h1 bs).1, by simp only [PyData.depth]; have := (h1 bs).2; omega⟩
section
variable {c : Cell} {P : SPost} {v0 v2 v3 v4 v5 v6 v7 v8 v9 v10 v11 v12 : Option D}
theorem turn38_ws {b : Int} (hd : DkI b c) (hb : b < 100000)
    (k : ∀ (c' : Cell) (e4 e5 e6 e7 e8 e9 e10 e11 : Option D), DkI (b + 10) c' → P.nx [v0, some (.ref 0), v2, v3, e4, e5, e6, e7, e8, e9, e10, e11, v12] [c']) :
    ws (lb_law_1 [v0, some (.ref 0), v2, v3, v4, v5, v6, v7, v8, v9, v10, v11, v12] [c]) P := by
  unfold lb_law_1 bs_law_0 bs_law_1 bs_law_2 bs_law_3 bs_law_4
  simp only [wp_sum2L, wp_sum2T, wp_itZipM, zip_tl, wp_fld, wp_meth, wp_prop, wp_make, ws_fldS, own_obj, wp_eqTI0, wp_eqLI0, wp_eqTT0, wp_eqLT0, wp_eqTI, wp_eqLI, wp_eqTT, wp_eqLT, wp_inI, wp_inIL, wp_inT, wp_ltT, wp_srtTI, wp_srtLI, wp_srtTR, wp_srtLR, wp_srtSet, seq_T, seq_L, wp_min2, wp_max2, ws_while, wp_itEn, row_en, ws_augI, wp_mulLst, wp_tupRg1, wp_tupRg2, wp_lstRg1, wp_lstRg2, ws_raise, ws_raise0, ws_try, ct_nx, ct_rt, ct_bk, ct_ct, ct_ex, wp_errF, wp_errIs, asE_err, un_rt, un_nx, wp_itZip, zip_tt, zip_ll, wp_sumL, wp_okN, wp_excN, wp_var, getE_zero, getE_succ, onO_some, wp_K, wp_nil, wp_cons, wp_tup, wp_lst, wp_lstC, wp_c1, wp_c2, wp_call, wp_fn, wp_toT, asB_bl, wp_cif, wp_tand, wp_tor, wp_tnot, wp_isN, wp_notN, wp_and, wp_or, wp_not, wp_chain, wp_isa, wp_slice, wp_noP, wp_P, asI_int, wp_rev, wp_dic0, wp_app, ws_nxN, ws_rtN, fp_rt, fp_nx, fp_ex, seq_nx, seq_rt, seq_bk, seq_ct, seq_ex, ws_seq, ws_nil, ws_break, ws_cont, ws_retN, ws_expr, ws_ret, ws_set, ws_if, ws_setI, ws_asg, ws_par, ws_par3, as2_two, as3_three, wp_addI, wp_subI, wp_mulI, wp_divI, wp_modI, wp_powI, wp_negI, wp_gtI, wp_ltI, wp_leI, wp_geI, wp_addT, wp_addL, wp_lenT, wp_lenL, wp_intI, wp_intB, wp_absI, wp_tupL, wp_tupT, wp_listL, wp_listT, wp_sliceT, wp_sliceL, wp_revT, wp_revL, wp_idxT, wp_idxL, wp_eqI, wp_it, row_tup, row_lst, wp_itRg, rg_one', rg_two', wp_comp, wp_compC, ws_for, List.set_cons_zero, List.set_cons_succ, List.length_cons, List.length_nil, if_true, if_false, Bool.false_eq_true, Nat.reduceAdd]
  refine ⟨trivial, oddC_wp hd (by omega) FlatH.nil fun x c1 fx hd1 => ⟨trivial, oddC_wp hd1 (by omega) FlatH.nil fun y c2 fy hd2 => ⟨by decide, by rw [sizeLine_eq]; decide, by rw [sizeLine_eq]; decide, by rw [sizeLine_eq]; decide, trivial, ?_⟩⟩⟩
  have f4 : ∀ d ∈ ([.str "order", .int (10 ^ Int.toNat 40), .tup [.tup [.int 0, .int 1], .non]] : List D), Fit 400 5 d := all_fit (by decide +kernel)
  have fz : ∀ d ∈ ([y, .str "order", .int (10 ^ Int.toNat 40), .tup [.tup [.int 0, .int 1], .non]] : List D), Fit 400 5 d := fun d h => by
    rcases List.mem_cons.mp h with h | h
    · rw [h]; exact fy
    · exact f4 d h
  refine one_wp hd2 (by omega) (by simp) (by simp) (lowL_iff.mpr fun d h => (fz d h).low) FlatH.nil fun z hz c3 hd3 => ?_
  have fz := fz z hz
  have f1 : FlatH [c3] := FlatH.cons hd3.low FlatH.nil
  refine ⟨trivial, ?_⟩
  rw [errors_wp fx.low fz.low f1]
  simp only [wp_okN, xf0, xf1, xf2, xf3, xf4, xf5, xf6, xf7, xf8, xf9, xf10, xf11, xf12]
  have r11 : (List.replicate (Int.toNat 11) [x]).flatten = [x, x, x, x, x, x] ++ [x, x, x, x, x] := rfl
  have r2 : (List.replicate (Int.toNat 2) [z]).flatten = [z, z] := rfl
  have fl : ∀ {n : Nat} {w : D}, Fit 400 5 w → n ≤ 20 → Fit 9000 6 (.lst (List.replicate n w)) := fun {n w} f hn => (Fit.lst (FitL.of (b := 400) (n := 20) (k := 5) (fun d hd => by rw [(List.mem_replicate.mp hd).2]; exact f) (by rw [List.length_replicate]; exact hn))).mono (by decide) (by decide)
  have f11 : Fit 9000 6 (.lst ([x, x, x, x, x, x] ++ [x, x, x, x, x])) := fl (n := 11) fx (by decide)
  have f2 : Fit 9000 6 (.lst [z, z]) := fl (n := 2) fz (by decide)
  rw [r11, r2]
  refine ⟨by rw [sizeLine_eq]; decide, by rw [sizeLine_eq]; decide, by rw [sizeLine_eq]; decide, ?_⟩
  refine wp_reprF f11 (by decide) (by decide) ⟨by rw [sizeLine_eq]; decide, ⟨by decide, by decide, by rw [sizeLine_eq]; decide⟩, ?_⟩
  refine wp_reprF f11 (by decide) (by decide) ?_
  simp only [wp_neS, decide_true, Bool.true_bne, Bool.not_true, asB_bl, Bool.false_eq_true, if_false]
  refine ⟨by rw [sizeLine_eq]; decide, ?_⟩
  refine wp_reprF f2 (by decide) (by decide) ⟨by rw [sizeLine_eq]; decide, ⟨by decide, by decide, by rw [sizeLine_eq]; decide⟩, ?_⟩
  refine wp_reprF f2 (by decide) (by decide) ?_
  simp only [wp_neS, decide_true, Bool.true_bne, Bool.not_true, asB_bl, Bool.false_eq_true, if_false]
  unfold bs_law_8
  simp only [wp_sum2L, wp_sum2T, wp_itZipM, zip_tl, wp_fld, wp_meth, wp_prop, wp_make, ws_fldS, own_obj, wp_eqTI0, wp_eqLI0, wp_eqTT0, wp_eqLT0, wp_eqTI, wp_eqLI, wp_eqTT, wp_eqLT, wp_inI, wp_inIL, wp_inT, wp_ltT, wp_srtTI, wp_srtLI, wp_srtTR, wp_srtLR, wp_srtSet, seq_T, seq_L, wp_min2, wp_max2, ws_while, wp_itEn, row_en, ws_augI, wp_mulLst, wp_tupRg1, wp_tupRg2, wp_lstRg1, wp_lstRg2, ws_raise, ws_raise0, ws_try, ct_nx, ct_rt, ct_bk, ct_ct, ct_ex, wp_errF, wp_errIs, asE_err, un_rt, un_nx, wp_itZip, zip_tt, zip_ll, wp_sumL, wp_okN, wp_excN, wp_var, getE_zero, getE_succ, onO_some, wp_K, wp_nil, wp_cons, wp_tup, wp_lst, wp_lstC, wp_c1, wp_c2, wp_call, wp_fn, wp_toT, asB_bl, wp_cif, wp_tand, wp_tor, wp_tnot, wp_isN, wp_notN, wp_and, wp_or, wp_not, wp_chain, wp_isa, wp_slice, wp_noP, wp_P, asI_int, wp_rev, wp_dic0, wp_app, ws_nxN, ws_rtN, fp_rt, fp_nx, fp_ex, seq_nx, seq_rt, seq_bk, seq_ct, seq_ex, ws_seq, ws_nil, ws_break, ws_cont, ws_retN, ws_expr, ws_ret, ws_set, ws_if, ws_setI, ws_asg, ws_par, ws_par3, as2_two, as3_three, wp_addI, wp_subI, wp_mulI, wp_divI, wp_modI, wp_powI, wp_negI, wp_gtI, wp_ltI, wp_leI, wp_geI, wp_addT, wp_addL, wp_lenT, wp_lenL, wp_intI, wp_intB, wp_absI, wp_tupL, wp_tupT, wp_listL, wp_listT, wp_sliceT, wp_sliceL, wp_revT, wp_revL, wp_idxT, wp_idxL, wp_eqI, wp_it, row_tup, row_lst, wp_itRg, rg_one', rg_two', wp_comp, wp_compC, ws_for, List.set_cons_zero, List.set_cons_succ, List.length_cons, List.length_nil, if_true, if_false, Bool.false_eq_true, Nat.reduceAdd]
  refine for_inv (I := fun env h => h = [c3] ∧ ∃ e8 e9 e10 e11 : Option D, env = [v0, some (.ref 0), v2, v3, some x, some z, some (.lst (errs x z)), some (.lst ([x, x, x, x, x, x] ++ [x, x, x, x, x])), e8, e9, e10, e11, v12]) ⟨rfl, _, _, _, _, rfl⟩ ?_ ?_
  rotate_left
  · rintro env h ⟨rfl, e8, e9, e10, e11, rfl⟩
    exact k c3 _ _ _ _ _ _ _ _ (hd3.mono (by omega))
  rintro d hd env h ⟨rfl, e8, e9, e10, e11, rfl⟩
  obtain ⟨i, hi⟩ := List.mem_iff_getElem?.mp hd
  obtain ⟨e, he, rfl⟩ := enumD_get hi
  obtain ⟨i17, fs, rfl⟩ := err_at he
  refine ⟨_, unpack2, ?_⟩
  have i15 : decide ((i : Int) < 15) = decide (i < 15) := decide_eq_decide.mpr (by omega)
  unfold lb_law_0 bs_law_5 bs_law_6 bs_law_7
  simp only [wp_sum2L, wp_sum2T, wp_itZipM, zip_tl, wp_fld, wp_meth, wp_prop, wp_make, ws_fldS, own_obj, wp_eqTI0, wp_eqLI0, wp_eqTT0, wp_eqLT0, wp_eqTI, wp_eqLI, wp_eqTT, wp_eqLT, wp_inI, wp_inIL, wp_inT, wp_ltT, wp_srtTI, wp_srtLI, wp_srtTR, wp_srtLR, wp_srtSet, seq_T, seq_L, wp_min2, wp_max2, ws_while, wp_itEn, row_en, ws_augI, wp_mulLst, wp_tupRg1, wp_tupRg2, wp_lstRg1, wp_lstRg2, ws_raise, ws_raise0, ws_try, ct_nx, ct_rt, ct_bk, ct_ct, ct_ex, wp_errF, wp_errIs, asE_err, un_rt, un_nx, wp_itZip, zip_tt, zip_ll, wp_sumL, wp_okN, wp_excN, wp_var, getE_zero, getE_succ, onO_some, wp_K, wp_nil, wp_cons, wp_tup, wp_lst, wp_lstC, wp_c1, wp_c2, wp_call, wp_fn, wp_toT, asB_bl, wp_cif, wp_tand, wp_tor, wp_tnot, wp_isN, wp_notN, wp_and, wp_or, wp_not, wp_chain, wp_isa, wp_slice, wp_noP, wp_P, asI_int, wp_rev, wp_dic0, wp_app, ws_nxN, ws_rtN, fp_rt, fp_nx, fp_ex, seq_nx, seq_rt, seq_bk, seq_ct, seq_ex, ws_seq, ws_nil, ws_break, ws_cont, ws_retN, ws_expr, ws_ret, ws_set, ws_if, ws_setI, ws_asg, ws_par, ws_par3, as2_two, as3_three, wp_addI, wp_subI, wp_mulI, wp_divI, wp_modI, wp_powI, wp_negI, wp_gtI, wp_ltI, wp_leI, wp_geI, wp_addT, wp_addL, wp_lenT, wp_lenL, wp_intI, wp_intB, wp_absI, wp_tupL, wp_tupT, wp_listL, wp_listT, wp_sliceT, wp_sliceL, wp_revT, wp_revL, wp_idxT, wp_idxL, wp_eqI, wp_it, row_tup, row_lst, wp_itRg, rg_one', rg_two', wp_comp, wp_compC, ws_for, List.set_cons_zero, List.set_cons_succ, List.length_cons, List.length_nil, if_true, if_false, Bool.false_eq_true, Nat.reduceAdd, rg_one', i15]
  rw [comp_mapA (g := D.int) (f := fun a : Int => D.bl (decide (a = ((i : Nat) : Int)))) fun a _ => ⟨_, gN_eq, wp_eq (by
    simp only [wp_sum2L, wp_sum2T, wp_itZipM, zip_tl, wp_fld, wp_meth, wp_prop, wp_make, ws_fldS, own_obj, wp_eqTI0, wp_eqLI0, wp_eqTT0, wp_eqLT0, wp_eqTI, wp_eqLI, wp_eqTT, wp_eqLT, wp_inI, wp_inIL, wp_inT, wp_ltT, wp_srtTI, wp_srtLI, wp_srtTR, wp_srtLR, wp_srtSet, seq_T, seq_L, wp_min2, wp_max2, ws_while, wp_itEn, row_en, ws_augI, wp_mulLst, wp_tupRg1, wp_tupRg2, wp_lstRg1, wp_lstRg2, ws_raise, ws_raise0, ws_try, ct_nx, ct_rt, ct_bk, ct_ct, ct_ex, wp_errF, wp_errIs, asE_err, un_rt, un_nx, wp_itZip, zip_tt, zip_ll, wp_sumL, wp_okN, wp_excN, wp_var, getE_zero, getE_succ, onO_some, wp_K, wp_nil, wp_cons, wp_tup, wp_lst, wp_lstC, wp_c1, wp_c2, wp_call, wp_fn, wp_toT, asB_bl, wp_cif, wp_tand, wp_tor, wp_tnot, wp_isN, wp_notN, wp_and, wp_or, wp_not, wp_chain, wp_isa, wp_slice, wp_noP, wp_P, asI_int, wp_rev, wp_dic0, wp_app, ws_nxN, ws_rtN, fp_rt, fp_nx, fp_ex, seq_nx, seq_rt, seq_bk, seq_ct, seq_ex, ws_seq, ws_nil, ws_break, ws_cont, ws_retN, ws_expr, ws_ret, ws_set, ws_if, ws_setI, ws_asg, ws_par, ws_par3, as2_two, as3_three, wp_addI, wp_subI, wp_mulI, wp_divI, wp_modI, wp_powI, wp_negI, wp_gtI, wp_ltI, wp_leI, wp_geI, wp_addT, wp_addL, wp_lenT, wp_lenL, wp_intI, wp_intB, wp_absI, wp_tupL, wp_tupT, wp_listL, wp_listT, wp_sliceT, wp_sliceL, wp_revT, wp_revL, wp_idxT, wp_idxL, wp_eqI, wp_it, row_tup, row_lst, wp_itRg, rg_one', rg_two', wp_comp, wp_compC, ws_for, List.set_cons_zero, List.set_cons_succ, List.length_cons, List.length_nil, if_true, if_false, Bool.false_eq_true, Nat.reduceAdd, wipeE, Bool.false_bne]
    exact ⟨trivial, trivial⟩)⟩]
  have hc := codes_ge i i17
  rw [show (List.map (fun a : Int => D.bl (decide (a = ((i : Nat) : Int)))) (rgI 0 17)) = ((List.range 17).map fun j => decide (j = i)).map D.bl by rw [← due_row i i17, List.map_map]; rfl]
  simp only [wp_okN, List.length_map, List.length_range]
  refine ⟨by decide, by rw [sizeLine_eq]; decide, by rw [sizeLine_eq]; decide, by rw [sizeLine_eq]; decide, trivial, ?_⟩
  rw [sorts_wp hc f1]
  simp only [wp_okN]
  rw [show ((List.range 17).map fun j => decide (j = i)).map D.bl ++ [D.bl (decide (i < 15)), D.bl (decide (i < 15)), D.bl !decide (i < 15), D.bl false, D.bl false] = (dueB i).map D.bl by unfold dueB; rw [List.map_append]; rfl]
  rw [wp_eqPd (pd_bools _) (pd_bools _), eq_due i i17]
  simp only [Bool.bne_true, Bool.not_true, asB_bl, Bool.false_eq_true, if_false]
  exact ⟨trivial, _, _, _, _, rfl⟩
end
theorem law_true (ns : List Int) (hn : ns.length ≤ 63) : ∃ h, F_law [.lst (ns.map .int)] [] = .ok (.bl true) h := by
  have key : wp (F_law [.lst (ns.map .int)] []) (fun a _ => a = .bl true) (fun _ _ => False) := by
    refine wp_fnD ?_
    rw [e_law]
    unfold b_law st_law_0 st_law_1 st_law_2 st_law_3 st_law_4
    try simp only [wp_sum2L, wp_sum2T, wp_itZipM, zip_tl, wp_fld, wp_meth, wp_prop, wp_make, ws_fldS, own_obj, wp_eqTI0, wp_eqLI0, wp_eqTT0, wp_eqLT0, wp_eqTI, wp_eqLI, wp_eqTT, wp_eqLT, wp_inI, wp_inIL, wp_inT, wp_ltT, wp_srtTI, wp_srtLI, wp_srtTR, wp_srtLR, wp_srtSet, seq_T, seq_L, wp_min2, wp_max2, ws_while, wp_itEn, row_en, ws_augI, wp_mulLst, wp_tupRg1, wp_tupRg2, wp_lstRg1, wp_lstRg2, ws_raise, ws_raise0, ws_try, ct_nx, ct_rt, ct_bk, ct_ct, ct_ex, wp_errF, wp_errIs, asE_err, un_rt, un_nx, wp_itZip, zip_tt, zip_ll, wp_sumL, wp_okN, wp_excN, wp_var, getE_zero, getE_succ, onO_some, wp_K, wp_nil, wp_cons, wp_tup, wp_lst, wp_lstC, wp_c1, wp_c2, wp_call, wp_fn, wp_toT, asB_bl, wp_cif, wp_tand, wp_tor, wp_tnot, wp_isN, wp_notN, wp_and, wp_or, wp_not, wp_chain, wp_isa, wp_slice, wp_noP, wp_P, asI_int, wp_rev, wp_dic0, wp_app, ws_nxN, ws_rtN, fp_rt, fp_nx, fp_ex, seq_nx, seq_rt, seq_bk, seq_ct, seq_ex, ws_seq, ws_nil, ws_break, ws_cont, ws_retN, ws_expr, ws_ret, ws_set, ws_if, ws_setI, ws_asg, ws_par, ws_par3, as2_two, as3_three, wp_addI, wp_subI, wp_mulI, wp_divI, wp_modI, wp_powI, wp_negI, wp_gtI, wp_ltI, wp_leI, wp_geI, wp_addT, wp_addL, wp_lenT, wp_lenL, wp_intI, wp_intB, wp_absI, wp_tupL, wp_tupT, wp_listL, wp_listT, wp_sliceT, wp_sliceL, wp_revT, wp_revL, wp_idxT, wp_idxL, wp_eqI, wp_it, row_tup, row_lst, wp_itRg, rg_one', rg_two', wp_comp, wp_compC, ws_for, List.set_cons_zero, List.set_cons_succ, List.length_cons, List.length_nil, if_true, if_false, Bool.false_eq_true, Nat.reduceAdd, true_and]
    refine deck_wp hn fun c hd => ?_
    try simp only [wp_sum2L, wp_sum2T, wp_itZipM, zip_tl, wp_fld, wp_meth, wp_prop, wp_make, ws_fldS, own_obj, wp_eqTI0, wp_eqLI0, wp_eqTT0, wp_eqLT0, wp_eqTI, wp_eqLI, wp_eqTT, wp_eqLT, wp_inI, wp_inIL, wp_inT, wp_ltT, wp_srtTI, wp_srtLI, wp_srtTR, wp_srtLR, wp_srtSet, seq_T, seq_L, wp_min2, wp_max2, ws_while, wp_itEn, row_en, ws_augI, wp_mulLst, wp_tupRg1, wp_tupRg2, wp_lstRg1, wp_lstRg2, ws_raise, ws_raise0, ws_try, ct_nx, ct_rt, ct_bk, ct_ct, ct_ex, wp_errF, wp_errIs, asE_err, un_rt, un_nx, wp_itZip, zip_tt, zip_ll, wp_sumL, wp_okN, wp_excN, wp_var, getE_zero, getE_succ, onO_some, wp_K, wp_nil, wp_cons, wp_tup, wp_lst, wp_lstC, wp_c1, wp_c2, wp_call, wp_fn, wp_toT, asB_bl, wp_cif, wp_tand, wp_tor, wp_tnot, wp_isN, wp_notN, wp_and, wp_or, wp_not, wp_chain, wp_isa, wp_slice, wp_noP, wp_P, asI_int, wp_rev, wp_dic0, wp_app, ws_nxN, ws_rtN, fp_rt, fp_nx, fp_ex, seq_nx, seq_rt, seq_bk, seq_ct, seq_ex, ws_seq, ws_nil, ws_break, ws_cont, ws_retN, ws_expr, ws_ret, ws_set, ws_if, ws_setI, ws_asg, ws_par, ws_par3, as2_two, as3_three, wp_addI, wp_subI, wp_mulI, wp_divI, wp_modI, wp_powI, wp_negI, wp_gtI, wp_ltI, wp_leI, wp_geI, wp_addT, wp_addL, wp_lenT, wp_lenL, wp_intI, wp_intB, wp_absI, wp_tupL, wp_tupT, wp_listL, wp_listT, wp_sliceT, wp_sliceL, wp_revT, wp_revL, wp_idxT, wp_idxL, wp_eqI, wp_it, row_tup, row_lst, wp_itRg, rg_one', rg_two', wp_comp, wp_compC, ws_for, List.set_cons_zero, List.set_cons_succ, List.length_cons, List.length_nil, if_true, if_false, Bool.false_eq_true, Nat.reduceAdd]
    have f0 : Fit 200 6 (.lst [.int 20, .int 5, .int 8, .int 6, .int 4, .int 20, .int 46, .tup [.int 2, .int 3, .int 5, .int 7, .int 11, .int 13]]) := all_fit (ds := [.lst [.int 20, .int 5, .int 8, .int 6, .int 4, .int 20, .int 46, .tup [.int 2, .int 3, .int 5, .int 7, .int 11, .int 13]]]) (by decide +kernel) _ List.mem_cons_self
    refine ⟨by rw [sizeLine_eq]; decide, wp_reprF f0 (by decide) (by decide) ⟨by rw [sizeLine_eq]; decide, by rw [sizeLine_eq]; decide, wp_reprF f0 (by decide) (by decide) ?_⟩⟩
    simp only [wp_neS, decide_true, Bool.true_bne, Bool.not_true, asB_bl, Bool.false_eq_true, if_false]
    refine ⟨by decide, ?_⟩
    refine for_cnt (J := fun n env h => ∃ (c : Cell) (v0 v2 v3 v4 v5 v6 v7 v8 v9 v10 v11 v12 : Option D), DkI (10 * (n : Nat)) c ∧ env = [v0, some (.ref 0), v2, v3, v4, v5, v6, v7, v8, v9, v10, v11, v12] ∧ h = [c]) ⟨c, _, _, _, _, _, _, _, _, _, _, _, _, hd.mono (by simp), rfl, rfl⟩ ?_ ?_
    · rintro n x env h hx hn ⟨c, v0, v2, v3, v4, v5, v6, v7, v8, v9, v10, v11, v12, hd, rfl, rfl⟩
      rw [rg_len] at hn
      refine ⟨_, gN_eq, ?_⟩
      exact turn38_ws hd (by omega) fun c' e4 e5 e6 e7 e8 e9 e10 e11 hd' => ⟨c', _, _, _, _, _, _, _, _, _, _, _, _, hd'.mono (by omega), rfl, rfl⟩
    · rintro env h ⟨c, v0, v2, v3, v4, v5, v6, v7, v8, v9, v10, v11, v12, hd, rfl, rfl⟩
      try simp only [wp_sum2L, wp_sum2T, wp_itZipM, zip_tl, wp_fld, wp_meth, wp_prop, wp_make, ws_fldS, own_obj, wp_eqTI0, wp_eqLI0, wp_eqTT0, wp_eqLT0, wp_eqTI, wp_eqLI, wp_eqTT, wp_eqLT, wp_inI, wp_inIL, wp_inT, wp_ltT, wp_srtTI, wp_srtLI, wp_srtTR, wp_srtLR, wp_srtSet, seq_T, seq_L, wp_min2, wp_max2, ws_while, wp_itEn, row_en, ws_augI, wp_mulLst, wp_tupRg1, wp_tupRg2, wp_lstRg1, wp_lstRg2, ws_raise, ws_raise0, ws_try, ct_nx, ct_rt, ct_bk, ct_ct, ct_ex, wp_errF, wp_errIs, asE_err, un_rt, un_nx, wp_itZip, zip_tt, zip_ll, wp_sumL, wp_okN, wp_excN, wp_var, getE_zero, getE_succ, onO_some, wp_K, wp_nil, wp_cons, wp_tup, wp_lst, wp_lstC, wp_c1, wp_c2, wp_call, wp_fn, wp_toT, asB_bl, wp_cif, wp_tand, wp_tor, wp_tnot, wp_isN, wp_notN, wp_and, wp_or, wp_not, wp_chain, wp_isa, wp_slice, wp_noP, wp_P, asI_int, wp_rev, wp_dic0, wp_app, ws_nxN, ws_rtN, fp_rt, fp_nx, fp_ex, seq_nx, seq_rt, seq_bk, seq_ct, seq_ex, ws_seq, ws_nil, ws_break, ws_cont, ws_retN, ws_expr, ws_ret, ws_set, ws_if, ws_setI, ws_asg, ws_par, ws_par3, as2_two, as3_three, wp_addI, wp_subI, wp_mulI, wp_divI, wp_modI, wp_powI, wp_negI, wp_gtI, wp_ltI, wp_leI, wp_geI, wp_addT, wp_addL, wp_lenT, wp_lenL, wp_intI, wp_intB, wp_absI, wp_tupL, wp_tupT, wp_listL, wp_listT, wp_sliceT, wp_sliceL, wp_revT, wp_revL, wp_idxT, wp_idxL, wp_eqI, wp_it, row_tup, row_lst, wp_itRg, rg_one', rg_two', wp_comp, wp_compC, ws_for, List.set_cons_zero, List.set_cons_succ, List.length_cons, List.length_nil, if_true, if_false, Bool.false_eq_true, Nat.reduceAdd]
      exact ⟨rfl, Nat.zero_le _, fun _ hx => by simp at hx, rfl⟩
  cases e : F_law [.lst (ns.map .int)] [] with
  | ok a h =>
    rw [e] at key
    have k : a = .bl true := key
    exact ⟨h, by rw [k]⟩
  | exc a h => rw [e] at key; exact key.elim
  | bad => rw [e] at key; exact key.elim
end G

open PySem PySem.W PyProof.Rows
set_option maxRecDepth 100000 in
set_option maxHeartbeats 0 in
theorem PySem.Challenge.cw_openports_k38_errors_and_bounds_holds : PySem.Challenge.rw_openports_k38_errors_and_bounds.Holds := by
  w_on; o_law
  refine HandSHeadRun.head_any (r := G.Rw) (q := view G.Rw.prog [34]) (H := G.hk) (ob := G.ob) (M := 16000) (loose := G.loose) (d := HandSHeadRun.topDef G.Rw.prog 34) (kwd := []) G.ob_eq (by kernel_rfl) (fun s => by kernel_rfl) G.run (by kernel_rfl) (by kernel_rfl) (by kernel_rfl) (by rfl) (by first | assumption | decide +kernel) (by decide +kernel) ⟨rfl, rfl, rfl, rfl, rfl, by decide +kernel⟩ ?hw ?hc
  case hw => w_witness2
  case hc =>
    refine DL.walk_G (l := PySem.Challenge.rw_openports_k38_errors_and_bounds) (n := 63) (k := 4) (x := "_law_script") (F := G.F_law) rfl (by decide) (by kernel_rfl) ⟨rfl, by decide, by decide⟩ rfl ?G G.law_true
    intro w mg fa h Y gN hmg0
    obtain ⟨K, KX, c⟩ := Y
    have hmg : mg ("law" : PySem.Str) = some (.ref fa) := by
      have e : (HandSHeadRun.topDef G.Rw.prog 34).name = ("law" : PySem.Str) := by kernel_rfl
      rw [← e]
      exact hmg0
    obtain ⟨fd, CM, cs, hb, ht, hF⟩ := G.facts (P := (PySem.Challenge.rw_openports_k38_errors_and_bounds).prog) (w := w) KX gN hmg c
    exact ⟨K, fd, CM, cs, KX, hb, ht, hF⟩

